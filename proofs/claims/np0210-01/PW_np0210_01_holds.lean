import PyProof.Rows.All
import Wide.All
import OpenK.AllK
import Wide.FinOn
import Lean
import PySem.Challenge.RW_np0210_01
open Array renaming length_toList->wO,getD_eq_getD_getElem?->abl,getElem?_eq_getElem->SX,empty_append->abt,toList->Wn
open Bool renaming and_eq_true_iff->bR,false_ne_true->ka,not_eq_true'->l0,and_eq_true->q9,or_eq_false_iff->vx,noConfusion->AE,false_eq_true->Ck,or_eq_true_iff->IQ,false_and->H5,true_and->Mr,rec->x9,not_eq_true->Vd,or_eq_true->UJ,eq_iff_iff->Wp,and_true->Wr,or_false->acI,or_true->acJ
open Classical renaming byContradiction->nY
open Decidable renaming byContradiction->aec,em->WZ
open Eq renaming trans->JI
open False renaming elim->GI
open Int renaming natCast_nonneg->eh,ofNat_le->dT,le_trans->ic,ofNat_lt->il,toNat_natCast->mf,lt_of_le_of_lt->m9,fmod_eq_emod_of_nonneg->tr,ofNat_inj->kE,ofNat_ne_zero->oI,ofNat_sub->nm,not_lt->jU,toNat_of_nonneg->tI,le_of_lt->n8,fdiv_eq_ediv_of_nonneg->BI,ofNat->kX,mul_comm->sn,toNat_le->tW,emod_lt_of_pos->Fe,add_comm->vI,sub_nonneg_of_le->It,emod_nonneg->Fc,lt_trans->yQ,add_sub_cancel->Jw,lt_of_lt_of_le->Jz,max_eq_right->Kq,ne_of_gt->Fd,le_antisymm->Jy,natAbs_of_nonneg->VV,le_of_lt_add_one->adm,natAbs_ne_zero->VS,toNat_lt->JQ,add_sub_assoc->abV,sub_self->MA,sub_le_self->acg,natCast_mul->aeo,not_le->Kt,add_assoc->Tg,toNat_sub->Z7,toNat->MZ,add_zero->Tf,le_of_eq->Zo,mul_one->Ts,le_refl->Zl,sub_sub->ac6
open List renaming length_map->aC,getElem?_eq_getElem->bE,range->aK,zip->aA,mem_of_getElem?->cr,getElem?_eq_some_iff->dr,mem_cons->bq,mem_map->bF,getElem?_map->cW,replicate->cf,length_append->de,mem_singleton->dL,not_mem_nil->dJ,length_range->fh,map_congr_left->fV,map_map->dj,size_toArray->fE,getElem?_eq_none->ir,all_eq_true->fx,length_drop->f0,map_cons->eN,nodup_cons->fW,mem_range->fU,getElem?_append_left->m8,map_append->gR,length_take->iX,of_mem_zip->iz,append_nil->iU,filterMap_cons->lz,getElem?_append_right->pO,forall_mem_cons->mr,mem_append->jg,take_length->kD,append_assoc->lb,mem_map_of_mem->nj,getElem?_zip_eq_some->sC,lookup_cons->kZ,length_set->kl,mem_of_mem_drop->nN,getElem?_toArray->pG,length_replicate->pP,mem_iff_getElem?->p7,getD_eq_getElem?_getD->t6,getElem_mem->mu,range'->gZ,mem_of_mem_take->pg,take_of_length_le->q8,mem_filterMap->oE,foldl_cons->mq,length_filterMap_le->tN,contains_iff_mem->sJ,take_add_one->ow,pairwise_cons->p4,length_cons->nS,drop_of_length_le->tF,drop_eq_getElem_cons->vA,mem_range'_1->qH,getElem?_set_self->vE,foldl_append->rM,length_take_of_le->xo,getD->i9,forIn_cons->pd,zip_cons_cons->tP,filterMap_cons_some->y8,length_eq_zero_iff->y6,length_zip->rT,perm_ext_iff_of_nodup->Fl,forall_mem_singleton->D6,filterMap_eq_nil_iff->E6,pairwise_map->we,ext_getElem?->wP,filterMap_cons_none->C3,sum_cons->rR,getElem?_range->zd,drop_take->tV,take_append_of_le_length->MI,range_succ_eq_map->BH,lookup_append->yW,take_append_drop->ER,getElem?_set_ne->Cg,length->rO,isEmpty_iff->yO,length_zipWith->D0,map_take->xe,range_succ->zW,mem_cons_self->Bi,length_zipIdx->EG,drop_zero->yL,reverse_cons->C5,find?_cons_of_pos->JN,find?_cons_of_neg->JO,any_eq_false->Dw,take_take->AA,nodup_nil->ye,filterMap_append->Lk,nodup_range->Df,mem_toArray->Dl,zipIdx_cons->DL,cons_ne_nil->DT,range'_succ->DV,range_eq_range'->Jm,drop_append_of_le_length->aco,mem_filter->Bq,nil_append->CW,map_const'->DW,take_succ_cons->Ie,length_take_le->ND,zipWith->yp,getElem?_concat_length->ab5,cons->ug,perm_append_singleton->ab6,take_zero->EQ,getElem_range->LU,mem_of_find?_eq_some->WS,extract_eq_take_drop->XO,mem_or_eq_of_mem_set->aaA,pairwise_iff_getElem->ab2,push_toArray->K4,nodup_append->L5,flatten_cons->M2,contains_eq_any_beq->Xl,any_toArray->JK,map_fst_zip->JP,mem_flatMap->KM,getElem?_cons_succ->ZP,toArray->Ea,drop_eq_nil_of_le->aaN,length_eq_one_iff->abs,foldr_cons->N5,length_filter_le->UO,mem_append_right->agC,forIn_nil->Ji,extract_toArray->XM,getElem?_zipIdx->aaa,drop_drop->MF,eraseDups_cons->UN,filter_eq_self->UQ,append_toArray->XN,findIdx?_cons->Ta,zip_nil_right->VH,length_range'->aav,map_replicate->aeG,all_map->GU,take_sublist->aaY,getElem?_set->acL,drop_zipWith->adS,mem_reverse->PH,any_eq_true->TK,map_reverse->U0,drop_length->Yl,map_zipWith->Z5,getElem_map->afN,map_id->K3,take_drop->acr,map_drop->abJ,map_nil->Yq,map_set->aaD
open List.Pairwise renaming filterMap->abI,imp_of_mem->air,nil->ahg,imp->ahn
open List.cons renaming inj->tO
open Nat renaming le_trans->ag,le_add_right->b6,mul_le_mul_left->c8,le_of_lt->bO,le_of_eq->bS,lt_of_lt_of_le->et,le_refl->cb,lt_of_le_of_lt->eB,add_le_add_right->gz,le_of_not_lt->fA,ne_of_lt->dz,zero_le->da,succ_le_succ->fO,le_of_succ_le->ig,add_le_add->fL,not_lt->dA,min_eq_left->gO,add_sub_cancel_left->nk,ne_of_gt->fH,lt_succ_self->jr,min_le_right->jW,add_le_add_left->lL,lt_irrefl->iL,min_le_left->kB,add_sub_of_le->lM,le_succ_of_le->mi,le_add_left->lm,sub_le->gE,add_assoc->j9,beq->d9,le_of_lt_succ->o5,lt_succ_of_lt->pK,le_of_ble_eq_true->sO,add_comm->lg,div_le_self->om,min_eq_right->pX,sub_pos_of_lt->ri,noConfusion->p8,add_right_comm->sR,zero_add->m4,mul_le_mul_right->uU,le_succ->l6,lt_add_of_pos_right->yK,exists_eq_add_of_le->Az,add_lt_add_left->wK,sub_add_cancel->vQ,lt_succ_of_le->uV,div_le_div_right->Al,xor_zero->qA,succ_add->qG,min_self->rA,succ_pos->rI,xor_assoc->uP,le_of_add_le_add_right->Gh,zero_xor->tR,le_antisymm->yI,lt_of_le_of_ne->DM,mul_div_cancel_left->ML,mul_comm->uT,le_of_succ_le_succ->Jd,le_total->wB,le_sub_of_add_le'->MG,le_of_not_le->Dt,max_le->ue,lt_of_not_le->EA,pow_le_pow_right->Ln,not_succ_le_zero->M9,div_add_mod->Bf,le_max_left->Em,not_lt_zero->EH,mod_two_eq_zero_or_one->VL,lt_of_add_lt_add_left->acp,mul_add->ze,lt_of_succ_le->NH,succ_ne_self->Iu,succ_pred_eq_of_pos->TH,max_eq_right->Ly,le_max_right->LM,succ_ne_zero->Mq,zero_min->Dr,le_min->zE,xor_self->FK,lt_trans->FM,max_eq_left->Lz,sub_eq_zero_of_le->XR,le_sub_one_of_lt->Zf,sub_one_lt_of_lt->Zh,sub_le_sub_right->ZX,mul_le_mul->Lu,not_succ_le_self->adj,mod_lt->Bg,not_le->C4,pos_of_ne_zero->VN,lt_of_lt_of_eq->aal,beq_refl->Ge,min_zero->KU,succ_min_succ->Y4,lt_or_ge->MH,log2_lt->Jx,mul_pos->Nk,add_mul->N4,strongRecOn->O3,ble->xT,succ->D4,sub_lt->LR,sub_self->TJ,xor_comm->ae2,zero_mul->afH,le_zero->UM,one_pos->ac7
open Nat.succ renaming inj->qU
open Ne renaming symm->iM
open Option renaming bind_eq_some_iff->cQ,map_eq_some_iff->lQ,isNone_iff_eq_none->Cs,map_some->AI,map->yn,isSome_none->S5,getD_some->TN
open Option.some renaming inj->aM,injEq->aha
open Prod renaming snd->wd
open PyProof.Rows renaming IntsAre->wM,unpackItems_tuple->ag3,getItem_tuple->ahF
open PyProof.Rows.AllBare renaming of_eq->ag5
open PyProof.Rows.IntsAre renaming length->Zq
open PySem renaming wpAny_bind->au,Shared->al,wpAny_pure->aU,Builtin->fY,NameKind->ce,Around->cA,wpAny_of_eq->dU,builtinLookup_eq_fast->jw,wpAny_specialOf->gb,World->cO,Program->dN,typeLookup_type->jv,wpAny_field->gG,wpAny_holding->kt,wpAny_seqItems->lp,wpAny_rule->jt,CmpOp->fm,wpAny_call_entry->n0,Stmt->fM,wpAny_typeOf->nc,isTrue->iJ,wpAny_newObj_type->qI,Flow->iH,wpAny_isInstance->rx,IsPart->ju,Code->jM,isSubtype_type->rC,wpAny_setField_rec->wF,codeAny_builtin->wE,wpAny_load->qN,Params->nG,Operator->o8,IsZip->mj,Arguments->sW,Comprehension->uZ,plainId_quiet->wx,entryFor_of_tree->zv,Scope->nI,wpAny_letGo->wD,wpAny_pyIter_list->Bs,slot_list_setitem->Dq,Walks->Cf,wpAny_mkInt->zB,call_meets->zi,wpAny_attempt->DA,wpAny_onRaise->DQ,Keyword->uR,wpAny_truthy_bool->GE,wpAny_sequenceKey->J0,Result->uQ,sizeLine_eq->Ca,wpAny_updateSeq->HR,codeAny_of_tree->J8,Fin->rE,markedBehindIn_of_false->O',slice_no_index->Ks,callType_codes->Ku,wpAny_listPart->Kz,wpAny_newTuple->KF,wpAny_pyNext_list_item->SN,wpAny_mkBytes->Kw,wpAny_pyNext_list_end->PW,WalksT->H1,wpAny_letTemporaryGo->PO,entry_list_setitem->W2,richCompare_gives->Wl,slot_list_getitem->WF,wpAny_mono->JS,args_list_setitem->W3,object_init_meets->Yd,call->yc,wpAny_enterFrame->Px,wpAny_askSetting->PD,arm_assign_Tuple->Tc,assign_Subscript->TG,wpAny_lookBehind->WV,sliceIndices_raw->XU,wpAny_pyIter_zip->YC,exec_Assign_arm->Pp,pushCells_keeps->TU
open PySem.Arguments renaming mk->ahm
open PySem.Around renaming under_plainId->wy,under_plain->ahS
open PySem.AutoIntOps renaming floordiv_1->ahs,rshift_1->ahu,rshift_2->ahv,iadd_0->ahC,pow_0->aho,pow_1->ahp,pow_4->ahq,add_0->ahx,sub_0->ahz,mul_0->ahA,mod_1->ahB
open PySem.Builtin renaming bitNot->zg,bitAnd->Jv,bitXor->VP,bitOr->VQ,divisionGoesByPylong->aht
open PySem.Builtin.Bytes renaming joined->um,buffer?->zC,takeBufferQuiet?->L8,tooLong->Dy,slotIsOwn->Kg,payload->Kh,sliced->J4,decodersThatHold->OY,fullReadOnly->abb,ownRelease->Xr,subscript?->XW,exportsOf->Xu,fitsIndex->Xw,joinLetGo->abd,bindOptional->ahP,takeBuffer?->ah9,sliceParts->ahT,exported->ahN,payload?->ahQ,write->ahR
open PySem.Builtin.Bytes.exported renaming match_1->ahO
open PySem.Builtin.Bytes.joinM renaming match_1->aic
open PySem.Builtin.CallNodes.aCallNodeAt renaming match_1->GM
open PySem.Builtin.Int renaming intBits->zh,intTooBig->ahr
open PySem.Builtin.List renaming listItems->Ky,listSubscript?->W4,listExtendWith->Zr,listTooLong->V4,listSameRef->Yj,listSliceParts->ahU,listFitsIndex->ahw
open PySem.Builtin.PlaceNodes.calledBy renaming match_1->ag9
open PySem.Builtin.Range renaming rangeSize->Tr
open PySem.Builtin.SmallTypes renaming nextOf->rF,newClass->YK,newRecord->ahX,iterAll->ahW
open PySem.Calls renaming loadGlobal_builtin->ag2,loadGlobal_global->ag4,spliced_nil->ag0
open PySem.Challenge renaming rw_np0210_01->aiw
open PySem.Code renaming quiet_builtin->Kn
open PySem.F renaming slot_list_getattribute->L2,slot_zip_next->DU,sub_NoneType_bytes->JC,slot_NoneType_eq_refl->Wg,called_zip->KO,entry_object_init->Yc,bm_called->Kv,args_zip_next_1->YB,entry_zip_next->YA,slot_tuple_len->Za,slot_int_rmul->V3,bm_plain->Yg
open PySem.Flow renaming next->Jh
open PySem.Heap renaming get?_push_size->cV,lt_size->cR,get?_push_of_some->fq,SameBut->iI,size_push->oa,get?_update_self->vy,ExtBut->Bn
open PySem.Heap.DictOf renaming new->ah8
open PySem.Heap.Ns renaming new->ahh
open PySem.Heap.SameBut renaming update->mY,refl->ahb
open PySem.Made renaming int->VU
open PySem.Manifest renaming sig_bytearray->ahL,owners->ahK
open PySem.NameKind renaming free->jV,cell->l8
open PySem.Obj renaming mapSeq->yF,mapBytearray->Ki,data_mapFields->YF,putName->WU
open PySem.PyData renaming keyHash->zr
open PySem.Sem renaming wp_mono->x6
open PySem.Shared renaming asleep_of_life->ag7,forget_eq->ag6,rest_eq->ag8
open PySem.Str renaming ofString->bd
open PySem.StrLaws renaming seqIndex_nonneg->ahG
open PySem.Value renaming noConfusion->gN,ref->m1,bytes->rL,isInt->zp,str->zq,isStr->WJ,notImplemented->ahD,builtin->ah4,int->ait
open PySem.W renaming Frag->eD,typeIs_bytes->lj,kms_lo->pV,kms_hi->pW,OpenLaw->yd,plainGet_of->JV,kms_bounds->J5
open PySem.W.FB renaming slot_bytes_eq->JD,slot_bytes_getitem->Xa,args_bytes_eq_2->Wi,entry_bytes_eq->Wh
open PySem.W.KBc renaming meets_slice2->ahJ
open PySem.W.KBmo renaming pre_take->ahY
open PySem.W.KBw renaming pyIter_bytes->Ti,IsBytesIter->Tj,walks->ahc
open PySem.W.KBy renaming buffer_eq->Xz,picked->W',look_buffer->aia,tooLong_not->aif,special_eq->ah',own_buffer->aib,add_bytes->ahy
open PySem.W.Looks renaming ld->ZM
open PySem.W.OpenLaw renaming pre->aiv
open PySem.W.WShape renaming hasItems->agG,hasAll->aiu
open PySem.W.WTm renaming holds->P5,value->P6,eq->P4
open PySem.W.chainOk renaming match_1->Qd
open PySem.W.isNameExpr renaming match_1->Bx
open PySem.W.isTupleDisplay renaming match_1->Qa
open PySem.Walks renaming list->Ip,tuple->ahd,range->ahf
open PySem.WalksT renaming enumerate->SO
open PySem.arm_assign_Subscript renaming match_1->Qc
open Std.Legacy.Range renaming forIn_eq_forIn_range'->aid,size->aie
open UInt8 renaming ofNat->kF,ofNat_toNat->adH,toNat_xor->Z6
open PySem PySem.W PyProof.Rows
set_option Elab.async false
set_option linter.all false
set_option tactic.hygienic false
set_option genCtorIdx false
set_option bootstrap.genMatcherCode false
set_option compiler.extract_closed false
set_option maxRecDepth 1000000
set_option maxHeartbeats 8000000
namespace Mine.Internal
section
variable {A:cA}{E Q:Value->al->Prop}{R:uQ->al->Prop}{U:Addr->Prop}{a:Addr}{b:List UInt8}{e:Expr}{ac:Env}{es:List Expr}{fd:FuncData}{ci:List (List Nat)}{hs:List (Option (List UInt8))}{k:Nat}{ks:List uR}{α:Type}{l:List α}{aX:List Nat}{ls:List Addr}{m aP most:Nat}{names:List Str}{ns:List Int}{oct:List UInt8}{p:Nat}{aV:List (List UInt8)}{pos:Pos}{prog:dN}{ps:List (Int×Tok×Value)}{s s' s1:al}{scope:nI}{target:Expr}{targets:List (Bool×(Value->Sem Unit))}{ak:List UInt8}{w:Nat}{ws:List (Nat×Nat)}{x:Str}{y:Value}{ys:List Value}{β:Type}
@[elab_as_elim] theorem aa{α:Sort _} {a b:α} {motive:α->Prop} (h:a=b) (x:motive b):motive a:=h▸x
@[elab_as_elim] theorem ao{α:Sort _} {a b:α} {motive:α->Prop} (h:b=a) (x:motive b):motive a:=h▸x
@[elab_as_elim] theorem aH{α β:Sort _} {a b:α} {c d:β} {motive:α->β->Prop} (h:a=b) (k:c=d) (x:motive b d):motive a c:=h▸k▸x
@[elab_as_elim] theorem F8{α β:Sort _} {a b:α} {c d:β} {motive:α->β->Prop} (h:a=b) (k:d=c) (x:motive b d):motive a c:=h▸ao k x
@[elab_as_elim] theorem agU{α β:Sort _} {a b:α} {c d:β} {motive:α->β->Prop} (h:b=a) (k:c=d) (x:motive b d):motive a c:=h▸k▸x
@[elab_as_elim] theorem sL{α β:Sort _} {a b:α} {c d:β} {motive:α->β->Prop} (h:b=a) (k:d=c) (x:motive b d):motive a c:=h▸ao k x
set_option genSizeOf false
set_option genSizeOfSpec false
inductive ab where
 | raw (v:Value)
 | int (i:Int)
 | bytes (b:List UInt8)
 | list (vs:List ab)
 | tuple (vs:List ab)
 | inst (C:Addr) (fs:List (Str×ab))
 | dict (ks:List Int) (vs:List ab)
 | lam (b:List UInt8)
variable {fs:List (Str×ab)}{items:List ab}{v:ab}{vs:List ab}
noncomputable abbrev ab.none:ab:= .raw .none
noncomputable abbrev ab.bool(b:Bool):ab:= .raw (.bool b)
noncomputable abbrev ab.ref(a:Addr):ab:= .raw (.ref a)
inductive d8 where
 | list (vs:List ab)
 | dh (b:List UInt8)
 | inst (C:Addr) (fs:List (Str×ab))
variable {o:d8}
noncomputable abbrev aq:=Addr->Option d8
variable {σ aD aQ:aq}
inductive Tag where
 | none | dict (a:Addr) | frame (L:Addr) | tab
noncomputable abbrev bI:=Addr->Tag
variable {κ:bI}
theorem nn{C:Prop}{a:α}(h:none=some a):C:=nomatch h
theorem iE{α:Sort _}{p:α->Prop}{C:Prop}(h:∃a,p a)(k:∀a,p a->C):C:=h.elim λa h=>k a h
theorem aB{α:Sort _}{p q:α->Prop}{C:Prop}(h:∃a,p a/\q a)(k:∀a,p a->q a->C):C:=h.elim λa h=>k a h.1 h.2
theorem kQ{α:Sort _}{p q r:α->Prop}{C:Prop}(h:∃a,p a/\q a/\r a)(k:∀a,p a->q a->r a->C):C:=h.elim λa h=>k a h.1 h.2.1 h.2.2
theorem qE{α:Sort _}{p q r t:α->Prop}{C:Prop}(h:∃a,p a/\q a/\r a/\t a)(k:∀a,p a->q a->r a->t a->C):C:=h.elim λa h=>k a h.1 h.2.1 h.2.2.1 h.2.2.2
theorem agV{α:Sort _}{p q r t u:α->Prop}{C:Prop}(h:∃a,p a/\q a/\r a/\t a/\u a)(k:∀a,p a->q a->r a->t a->u a->C):C:=h.elim λa h=>k a h.1 h.2.1 h.2.2.1 h.2.2.2.1 h.2.2.2.2
theorem agW{α:Sort _}{p q r t u v:α->Prop}{C:Prop}(h:∃a,p a/\q a/\r a/\t a/\u a/\v a)(k:∀a,p a->q a->r a->t a->u a->v a->C):C:=h.elim λa h=>k a h.1 h.2.1 h.2.2.1 h.2.2.2.1 h.2.2.2.2.1 h.2.2.2.2.2
theorem F9{α:Sort _}{β:Sort _}{p:α->β->Prop}{C:Prop}(h:∃a b,p a b)(k:∀a b,p a b->C):C:=h.elim λa h=>h.elim λb h=>k a b h
theorem jL{α:Sort _}{β:Sort _}{p q:α->β->Prop}{C:Prop}(h:∃a b,p a b/\q a b)(k:∀a b,p a b->q a b->C):C:=h.elim λa h=>h.elim λb h=>k a b h.1 h.2
theorem eR{α:Sort _}{β:Sort _}{p q r:α->β->Prop}{C:Prop}(h:∃a b,p a b/\q a b/\r a b)(k:∀a b,p a b->q a b->r a b->C):C:=h.elim λa h=>h.elim λb h=>k a b h.1 h.2.1 h.2.2
theorem eK{α:Sort _}{β:Sort _}{p q r t:α->β->Prop}{C:Prop}(h:∃a b,p a b/\q a b/\r a b/\t a b)(k:∀a b,p a b->q a b->r a b->t a b->C):C:=h.elim λa h=>h.elim λb h=>k a b h.1 h.2.1 h.2.2.1 h.2.2.2
theorem agX{α:Sort _}{β:Sort _}{p q r t u:α->β->Prop}{C:Prop}(h:∃a b,p a b/\q a b/\r a b/\t a b/\u a b)(k:∀a b,p a b->q a b->r a b->t a b->u a b->C):C:=h.elim λa h=>h.elim λb h=>k a b h.1 h.2.1 h.2.2.1 h.2.2.2.1 h.2.2.2.2
theorem OL{α:Sort _}{β:Sort _}{p q r t u v:α->β->Prop}{C:Prop}(h:∃a b,p a b/\q a b/\r a b/\t a b/\u a b/\v a b)(k:∀a b,p a b->q a b->r a b->t a b->u a b->v a b->C):C:=h.elim λa h=>h.elim λb h=>k a b h.1 h.2.1 h.2.2.1 h.2.2.2.1 h.2.2.2.2.1 h.2.2.2.2.2
theorem F'{α:Sort _}{β:Sort _}{γ:Sort _}{p:α->β->γ->Prop}{C:Prop}(h:∃a b c,p a b c)(k:∀a b c,p a b c->C):C:=h.elim λa h=>h.elim λb h=>h.elim λc h=>k a b c h
theorem o0{α:Sort _}{β:Sort _}{γ:Sort _}{p q:α->β->γ->Prop}{C:Prop}(h:∃a b c,p a b c/\q a b c)(k:∀a b c,p a b c->q a b c->C):C:=h.elim λa h=>h.elim λb h=>h.elim λc h=>k a b c h.1 h.2
theorem OM{α:Sort _}{β:Sort _}{γ:Sort _}{p q r:α->β->γ->Prop}{C:Prop}(h:∃a b c,p a b c/\q a b c/\r a b c)(k:∀a b c,p a b c->q a b c->r a b c->C):C:=h.elim λa h=>h.elim λb h=>h.elim λc h=>k a b c h.1 h.2.1 h.2.2
theorem qF{α:Sort _}{β:Sort _}{γ:Sort _}{p q r t:α->β->γ->Prop}{C:Prop}(h:∃a b c,p a b c/\q a b c/\r a b c/\t a b c)(k:∀a b c,p a b c->q a b c->r a b c->t a b c->C):C:=h.elim λa h=>h.elim λb h=>h.elim λc h=>k a b c h.1 h.2.1 h.2.2.1 h.2.2.2
theorem agY{α:Sort _}{β:Sort _}{γ:Sort _}{p q r t u:α->β->γ->Prop}{C:Prop}(h:∃a b c,p a b c/\q a b c/\r a b c/\t a b c/\u a b c)(k:∀a b c,p a b c->q a b c->r a b c->t a b c->u a b c->C):C:=h.elim λa h=>h.elim λb h=>h.elim λc h=>k a b c h.1 h.2.1 h.2.2.1 h.2.2.2.1 h.2.2.2.2
theorem ON{α:Sort _}{β:Sort _}{γ:Sort _}{p q r t u v:α->β->γ->Prop}{C:Prop}(h:∃a b c,p a b c/\q a b c/\r a b c/\t a b c/\u a b c/\v a b c)(k:∀a b c,p a b c->q a b c->r a b c->t a b c->u a b c->v a b c->C):C:=h.elim λa h=>h.elim λb h=>h.elim λc h=>k a b c h.1 h.2.1 h.2.2.1 h.2.2.2.1 h.2.2.2.2.1 h.2.2.2.2.2
theorem agZ{α:Sort _}{β:Sort _}{γ:Sort _}{δ:Sort _}{p:α->β->γ->δ->Prop}{C:Prop}(h:∃a b c d,p a b c d)(k:∀a b c d,p a b c d->C):C:=h.elim λa h=>h.elim λb h=>h.elim λc h=>h.elim λd h=>k a b c d h
theorem Be{α:Sort _}{β:Sort _}{γ:Sort _}{δ:Sort _}{p q:α->β->γ->δ->Prop}{C:Prop}(h:∃a b c d,p a b c d/\q a b c d)(k:∀a b c d,p a b c d->q a b c d->C):C:=h.elim λa h=>h.elim λb h=>h.elim λc h=>h.elim λd h=>k a b c d h.1 h.2
theorem Ga{α:Sort _}{β:Sort _}{γ:Sort _}{δ:Sort _}{p q r:α->β->γ->δ->Prop}{C:Prop}(h:∃a b c d,p a b c d/\q a b c d/\r a b c d)(k:∀a b c d,p a b c d->q a b c d->r a b c d->C):C:=h.elim λa h=>h.elim λb h=>h.elim λc h=>h.elim λd h=>k a b c d h.1 h.2.1 h.2.2
theorem OO{α:Sort _}{β:Sort _}{γ:Sort _}{δ:Sort _}{p q r t:α->β->γ->δ->Prop}{C:Prop}(h:∃a b c d,p a b c d/\q a b c d/\r a b c d/\t a b c d)(k:∀a b c d,p a b c d->q a b c d->r a b c d->t a b c d->C):C:=h.elim λa h=>h.elim λb h=>h.elim λc h=>h.elim λd h=>k a b c d h.1 h.2.1 h.2.2.1 h.2.2.2
theorem OP{α:Sort _}{β:Sort _}{γ:Sort _}{δ:Sort _}{p q r t u:α->β->γ->δ->Prop}{C:Prop}(h:∃a b c d,p a b c d/\q a b c d/\r a b c d/\t a b c d/\u a b c d)(k:∀a b c d,p a b c d->q a b c d->r a b c d->t a b c d->u a b c d->C):C:=h.elim λa h=>h.elim λb h=>h.elim λc h=>h.elim λd h=>k a b c d h.1 h.2.1 h.2.2.1 h.2.2.2.1 h.2.2.2.2
theorem Gb{α:Sort _}{β:Sort _}{γ:Sort _}{δ:Sort _}{p q r t u v:α->β->γ->δ->Prop}{C:Prop}(h:∃a b c d,p a b c d/\q a b c d/\r a b c d/\t a b c d/\u a b c d/\v a b c d)(k:∀a b c d,p a b c d->q a b c d->r a b c d->t a b c d->u a b c d->v a b c d->C):C:=h.elim λa h=>h.elim λb h=>h.elim λc h=>h.elim λd h=>k a b c d h.1 h.2.1 h.2.2.1 h.2.2.2.1 h.2.2.2.2.1 h.2.2.2.2.2
theorem dP{p q C:Prop}(h:p/\q)(k:p->q->C):C:=k h.1 h.2
theorem o4{p q r C:Prop}(h:p/\q/\r)(k:p->q->r->C):C:=k h.1 h.2.1 h.2.2
theorem Gc{p q r t C:Prop}(h:p/\q/\r/\t)(k:p->q->r->t->C):C:=k h.1 h.2.1 h.2.2.1 h.2.2.2
theorem sM{p q r t u C:Prop}(h:p/\q/\r/\t/\u)(k:p->q->r->t->u->C):C:=k h.1 h.2.1 h.2.2.1 h.2.2.2.1 h.2.2.2.2
theorem Gd{p q r t u v C:Prop}(h:p/\q/\r/\t/\u/\v)(k:p->q->r->t->u->v->C):C:=k h.1 h.2.1 h.2.2.1 h.2.2.2.1 h.2.2.2.2.1 h.2.2.2.2.2
theorem OQ{p q r t u v w C:Prop}(h:p/\q/\r/\t/\u/\v/\w)(k:p->q->r->t->u->v->w->C):C:=k h.1 h.2.1 h.2.2.1 h.2.2.2.1 h.2.2.2.2.1 h.2.2.2.2.2.1 h.2.2.2.2.2.2
theorem nb{a b:Nat}(h:xT a b=true):a≤b:=sO h
theorem ff{C:Prop}(h:false=true):C:=nomatch h
noncomputable def Tag.ix(t:Tag):Nat:=t.casesOn 0 (λJ=>1) (λJ=>2) 3
noncomputable def ab.ix(v:ab):Nat:=v.casesOn (λJ=>0) (λJ=>1) (λJ=>2) (λJ=>3) (λJ=>4) (λJ J=>5) (λJ J=>6) λJ=>7
theorem bW{a b:Tag}{C:Prop}(e:a=b)(h:d9 a.ix b.ix=false:=by rfl):C:=ff (h.symm.trans (ao e (Ge _)))
def aj(σ:aq)(κ:bI)(a:Addr):Prop:=σ a=none/\κ a= .none
inductive sP(U:Addr->Prop)(h:Heap)(f:Addr)(c:Addr):Prop
 | mk (qual p q:Str) (scope:nI) (pm ct:Value) (co:Addr) (ps p1 p2 p3:Pos) :
  h.get? f=some {cls:= .type "function",data:= .func (kla_fn "<lambda>" qual {posonlyargs:= [],args:= [{arg:=p,annotation:=none,pos:=ps}],vararg:=none,kwonlyargs:= [],kw_defaults:= [],kwarg:=none,defaults:= []}
   (.Compare (.Name p p1) [.Eq] [.Name q p2] p3) scope [(q,c)] pm (.ref co) ct)}->
  h.CodeRec (.ref co) qual->U co->(scope.kind= .function/\scope.isGenerator=false/\scope.isCoroutine=false/\scope.names= [(p, .local),(q, .free)]/\
  (p==("__debug__" :Str))=false/\(q==("__debug__" :Str))=false/\(q==("__classdict__" :Str))=false/\(p==q)=false)->sP U h f c
inductive OS where
 | v (a:ab) (x:Value)
 | vs (l:List ab) (m:List Value)
 | fs (l:List (Str×ab)) (m:List DictEntry)
 | ds (k:List Int) (l:List ab) (m:List DictEntry)
class inductive VR (U:Addr->Prop) (h:Heap):OS->Prop
 | raw (v:Value):VR U h (.v (.raw v) v)
 | int (i:Int) (t:Tok):VR U h (.v (.int i) (.int i t))
 | bytes (b:List UInt8) (t:Tok):VR U h (.v (.bytes b) (.bytes b.toArray t))
 | list {a:Addr} {vs:List ab} {items:List Value}:U a->h.IsList a items.toArray->VR U h (.vs vs items)->VR U h (.v (.list vs) (.ref a))
 | tuple {a:Addr} {vs:List ab} {items:List Value}:U a->h.IsTuple a items.toArray->VR U h (.vs vs items)->VR U h (.v (.tuple vs) (.ref a))
 | inst {a d C:Addr} {fs:List (Str×ab)} {es:List DictEntry} {n:Nat}:U a->U d->h.get? a=some (instObj C d)->h.get? d=some (dictOf es n)->VR U h (.fs fs es)->VR U h (.v (.inst C fs) (.ref a))
 | dict {a:Addr} {ks:List Int} {vs:List ab} {es:List DictEntry} {n:Nat}:U a->(a==sysModules)=false->h.get? a=some (dictOf es n)->ks.Nodup->VR U h (.ds ks vs es)->VR U h (.v (.dict ks vs) (.ref a))
 | lam {f c:Addr} {b:List UInt8} {t:Tok}:U f->U c->sP U h f c->h.IsCell c (some (.bytes b.toArray t))->VR U h (.v (.lam b) (.ref f))
 | nil:VR U h (.vs [] [])
 | cons {v:ab} {x:Value} {vs:List ab} {xs:List Value}:VR U h (.v v x)->VR U h (.vs vs xs)->VR U h (.vs (v::vs) (x::xs))
 | xW:VR U h (.fs [] [])
 | uS {x:Str} {v:ab} {hs:Int} {t:Tok} {y:Value} {fs:List (Str×ab)} {es:List DictEntry}:VR U h (.v v y)->VR U h (.fs fs es)->VR U h (.fs ((x,v)::fs) (⟨hs, .str x t,y⟩::es))
 | Gf:VR U h (.ds [] [] [])
 | Gg {k:Int} {v:ab} {t:Tok} {y:Value} {ks:List Int} {vs:List ab} {es:List DictEntry}:VR U h (.v v y)->VR U h (.ds ks vs es)->VR U h (.ds (k::ks) (v::vs) (⟨hashInt k, .int k t,y⟩::es))
abbrev am(U:Addr->Prop)(h:Heap)(v:ab)(x:Value):Prop:=VR U h (.v v x)
abbrev aN(U:Addr->Prop)(h:Heap)(v:List ab)(x:List Value):Prop:=VR U h (.vs v x)
abbrev gv(U:Addr->Prop)(h:Heap)(v:List (Str×ab))(x:List DictEntry):Prop:=VR U h (.fs v x)
abbrev sQ(U:Addr->Prop)(h:Heap)(k:List Int)(v:List ab)(x:List DictEntry):Prop:=VR U h (.ds k v x)
def c7(U:Addr->Prop)(h:Heap)(U':Addr->Prop)(h':Heap):Prop:=∀a o,U a->h.get? a=some o->U' a/\h'.get? a=some o
theorem c7.refl{U h}:c7 U h U h:=λJ J u e=>⟨u,e⟩
theorem c7.trans{U h U' h' U'' iG}(x:c7 U h U' h')(y:c7 U' h' U'' iG):c7 U h U'' iG:=λa o u e=>dP (x a o u e) λu' e'=>y a o u' e'
theorem isList_stays{U h U' h'}(S:c7 U h U' h'){a items}(u:U a)(x:h.IsList a items):h'.IsList a items:=aB x λo e r=>⟨o,(S a o u e).2,r⟩
theorem OT{U h U' h'}(S:c7 U h U' h'){a items}(u:U a)(x:h.IsTuple a items):h'.IsTuple a items:=aB x λo e r=>⟨o,(S a o u e).2,r⟩
theorem OU{U h U' h'}(S:c7 U h U' h'){a v}(u:U a)(x:h.IsCell a v):h'.IsCell a v:=aB x λo e r=>⟨o,(S a o u e).2,r⟩
theorem xX{d c n:Nat}(h:d+c*(n+1)≤m)(q:k≤c):d+k+c*n≤m:=ag (ag (bS (sR ..)) (ag (lL q _) (bS (j9 ..)))) h
theorem sS{a c:Nat}(h:a+(k+1)<c):a<c:=eB (b6 ..) h
theorem xY{a c:Nat}(h:a+(k+1)<c):a+1+k<c:=qG a k▸h
theorem OV{a b S:Nat}(h:4≤S)(q:a+b≤S - 4):2+a+b≤S:=ag (bS (j9 ..)) (ag (fL (by decide:2≤4) q) (bS (lM h)))
theorem OW(n:Nat):n≤(n+3) / 4*4:=Gh (b:=3) (ag (bS (Bf (n+3) 4).symm) (fL (bS (uT ..)) (o5 (Bg _ (nb rfl)))))
theorem OX{s x n:Nat}(hp:1≤x)(h:s+x≤(n+3) / 4):s*4<n:=Gh (b:=3) (ao (Nat.succ_mul s 4) (ag (uU 4 (ag (lL hp s) h)) (Nat.div_mul_le_self ..)))
theorem Gi{n:Nat}(h:2≤n)(h6:n≤6):n∈ [2,3,4,5,6]:=(qH.mpr ⟨h,uV h6⟩:n∈gZ 2 5)
theorem Gj{n:Nat}(h:1≤n)(h6:n≤3):n∈ [1,2,3]:=(qH.mpr ⟨h,uV h6⟩:n∈gZ 1 3)
theorem Gk{x:Int}(h:0≤x):¬ 0≤ -x - 1:=by lia
theorem xZ{U h U' h'}(S:c7 U h U' h'){co:Addr}{q:Str}(u:U co)(x:h.CodeRec (.ref co) q):U' co/\h'.CodeRec (.ref co) q:=by
 obtain ⟨c,o,vs,t,e,e1,r⟩:=x;cases e;exact ⟨(S _ _ u e1).1,_,o,vs,t,rfl,(S _ _ u e1).2,r⟩
theorem x5{U h U' h'}(S:c7 U h U' h'){co:Addr}{q:Str}(u:U co)(x:h.CodeRec (.ref co) q):h'.CodeRec (.ref co) q:=(xZ S u x).2
theorem sP.bb{U h U' h'}(S:c7 U h U' h'){f c:Addr}(u:U f)(x:sP U h f c):U' f/\sP U' h' f c :=
 x.casesOn λqual p q scope pm ct co ps p1 p2 p3 e hc hu r=>⟨(S _ _ u e).1,qual,p,q,scope,pm,ct,co,ps,p1,p2,p3,(S _ _ u e).2,(xZ S hu hc).2,(xZ S hu hc).1,r⟩
theorem Bh{U h U' h'}(S:c7 U h U' h'){P:Obj->Prop}(u:U a)(x:∃o,h.get? a=some o/\P o):U' a:=aB x λJ e J=>(S _ _ u e).1
section
variable{U:Addr->Prop}{h:Heap}{U':Addr->Prop}{h':Heap}(S:c7 U h U' h')
include S
theorem VR.mono{i}(r:VR U h i):VR U' h' i :=
 r.rec (motive:=λi J=>VR U' h' i) .raw .int .bytes
 (λu hl J r=> .list (Bh S u hl) (isList_stays S u hl) r) (λu hl J r=> .tuple (Bh S u hl) (OT S u hl) r)
 (λu ud e ed J r=> .inst (S _ _ u e).1 (S _ _ ud ed).1 (S _ _ u e).2 (S _ _ ud ed).2 r) (λu lo e nd J r=> .dict (S _ _ u e).1 lo (S _ _ u e).2 nd r)
 (λu uc e r=> .lam (e.bb S u).1 (Bh S uc r) (e.bb S u).2 (OU S uc r)) .nil (λJ J a b=> .cons a b) .xW (λJ J a b=> .uS a b) .Gf (λJ J a b=> .Gg a b)
end
section
variable{U:Addr->Prop}{h:Heap}
theorem aN.ind{P:List ab->List Value->Prop}(nil:P [] [])(cons:∀{v x vs xs},am U h v x->aN U h vs xs->P vs xs->P (v::vs) (x::xs)){vs xs}(r:aN U h vs xs):P vs xs :=
 r.rec (motive:=λi J=>i.rec (λJ J=>True) P (λJ J=>True) λJ J J=>True) (λJ=>⟨⟩) (λJ J=>⟨⟩) (λJ J=>⟨⟩) (λJ J J J=>⟨⟩) (λJ J J J=>⟨⟩) (λJ J J J J J=>⟨⟩) (λJ J J J J J=>⟨⟩) (λJ J J J=>⟨⟩) nil (λa b J d=>cons a b d) ⟨⟩ (λJ J J J=>⟨⟩) ⟨⟩ λJ J J J=>⟨⟩
theorem VR.length{vs xs}(r:aN U h vs xs):vs.length=xs.length:=r.ind (P:=λvs xs=>vs.length=xs.length) rfl λJ J e=>congrArg (λz=>z +1) e
theorem VR.get{xs:List Value}(r:aN U h vs xs):∀{i:Nat} {v:ab},vs[i]? =some v->∃x:Value,xs[i]? =some x/\am U h v x :=
 r.ind (P:=λvs xs=>∀{i:Nat} {v:ab},vs[i]? =some v->∃x:Value,xs[i]? =some x/\am U h v x) nn λa J ih i J=>i.casesOn (λe=>⟨_,rfl,ao (aM e) a⟩) λJ e=>ih e
theorem VR.append{vs xs fk xs'}(r:aN U h vs xs)(r':aN U h fk xs'):aN U h (vs++fk) (xs++xs'):=r.ind (P:=λvs xs=>aN U h (vs++fk) (xs++xs')) r' λa J q=> .cons a q
theorem VR.one{v x}(r:am U h v x):aN U h [v] [x]:= .cons r .nil
theorem VR.set{vs xs}(r:aN U h vs xs){i:Nat}{v x}(e:am U h v x):aN U h (vs.set i v) (xs.set i x) :=
 r.ind (P:=λvs xs=>∀i,aN U h (vs.set i v) (xs.set i x)) (λJ=> .nil) (λa q ih i=>i.casesOn (.cons e q) λi=> .cons a (ih i)) i
theorem VR.drop{vs xs}(r:aN U h vs xs)(n:Nat):aN U h (vs.drop n) (xs.drop n) :=
 r.ind (P:=λvs xs=>∀n,aN U h (vs.drop n) (xs.drop n)) (λn=>n.casesOn .nil λJ=> .nil) (λa q ih n=>n.casesOn (.cons a q) ih) n
theorem VR.take{vs xs}(r:aN U h vs xs)(n:Nat):aN U h (vs.take n) (xs.take n) :=
 r.ind (P:=λvs xs=>∀n,aN U h (vs.take n) (xs.take n)) (λn=>n.casesOn .nil λJ=> .nil) (λa q ih n=>n.casesOn .nil λn=> .cons a (ih n)) n
def Gl(U:Addr->Prop)(h:Heap)(v:ab)(x:Value):Prop:=match v with
 | .raw v=>x=v
 | .int i=>∃t,x= .int i t
 | .bytes b=>∃t,x= .bytes b.toArray t
 | .list vs=>∃a items,x= .ref a/\U a/\h.IsList a items.toArray/\aN U h vs items
 | .tuple vs=>∃a items,x= .ref a/\U a/\h.IsTuple a items.toArray/\aN U h vs items
 | .inst C fs=>∃a d es n,x= .ref a/\U a/\U d/\h.get? a=some (instObj C d)/\h.get? d=some (dictOf es n)/\gv U h fs es
 | .dict ks vs=>∃a es n,x= .ref a/\U a/\(a==sysModules)=false/\h.get? a=some (dictOf es n)/\ks.Nodup/\sQ U h ks vs es
 | .lam b=>∃f c t,x= .ref f/\U f/\U c/\sP U h f c/\h.IsCell c (some (.bytes b.toArray t))
theorem VR.inv{v x}(r:am U h v x):Gl U h v x :=
 r.casesOn (motive:=λi J=>i.rec (Gl U h) (λJ J=>True) (λJ J=>True) λJ J J=>True) (λJ=>rfl) (λJ t=>⟨t,rfl⟩) (λJ t=>⟨t,rfl⟩) (λu l r=>⟨_,_,rfl,u,l,r⟩) (λu l r=>⟨_,_,rfl,u,l,r⟩) (λa b c d e=>⟨_,_,_,_,rfl,a,b,c,d,e⟩) (λa b c d e=>⟨_,_,_,rfl,a,b,c,d,e⟩) (λa b c d=>⟨_,_,_,rfl,a,b,c,d⟩) ⟨⟩ (λJ J=>⟨⟩) ⟨⟩ (λJ J=>⟨⟩) ⟨⟩ λJ J=>⟨⟩
def Gm(U:Addr->Prop)(h:Heap)(l:List ab)(m:List Value):Prop:=l.casesOn (m= []) λv vs=>∃y zs,m=y::zs/\am U h v y/\aN U h vs zs
theorem VR.linv{v x}(r:aN U h v x):Gm U h v x :=
 r.casesOn (motive:=λi J=>i.rec (λJ J=>True) (Gm U h) (λJ J=>True) λJ J J=>True) (λJ=>⟨⟩) (λJ J=>⟨⟩) (λJ J=>⟨⟩) (λJ J J=>⟨⟩) (λJ J J=>⟨⟩) (λJ J J J J=>⟨⟩) (λJ J J J J=>⟨⟩) (λJ J J J=>⟨⟩) rfl (λa b=>⟨_,_,rfl,a,b⟩) ⟨⟩ (λJ J=>⟨⟩) ⟨⟩ λJ J=>⟨⟩
theorem VR.nil_inv{ys}(r:aN U h [] ys):ys= []:=r.linv
theorem VR.cons_inv{v vs ys}(r:aN U h (v::vs) ys):∃y zs,ys=y::zs/\am U h v y/\aN U h vs zs:=r.linv
@[elab_as_elim] theorem VR.n{motive:List Value->Prop} {ys} (r:aN U h [] ys) (k:motive []):motive ys:=aa r.nil_inv k
@[elab_as_elim] theorem VR.c{motive:List Value->Prop} {v vs ys} (r:aN U h (v::vs) ys) (k:∀y zs,am U h v y->aN U h vs zs->motive (y::zs)):motive ys:=eR r.cons_inv λy zs e a b=>aa e (k y zs a b)
@[elab_as_elim] theorem VR.c1{motive:List Value->Prop} {v ys} (r:aN U h [v] ys) (k:∀y,am U h v y->motive [y]):motive ys:=r.c λy J a b=>b.n (k y a)
theorem VR.int_inv{i x}(r:am U h (.int i) x):∃t,x= .int i t:=r.inv
theorem VR.mI{b x}(r:am U h (.bytes b) x):∃t,x= .bytes b.toArray t:=r.inv
theorem VR.bQ{v x}(r:am U h (.raw v) x):x=v:=r.inv
end
section
variable {elts:List Expr}{orelse:List fM}{r:Expr}{dH:List Expr}{kR value:Expr}{sT:Sem Value}
noncomputable def lN:List String:=OY++ ["bytearray.__contains__","bytearray.__mod__","bytearray.__rmod__","_struct.pack_into.held","bytearray.find.held"]
noncomputable def o6(c:jM):Bool:=c.casesOn (λJ J=>true) (λid J=> !lN.contains id) (λJ J=>true) (λJ J=>true) (λJ J J=>true) (λJ J J J J=>true) (λJ J=>true) (λJ J=>true) (λJ J J J=>true) (λJ J J J J=>true) (λJ J J J J=>true) (λJ J J J J=>true) λJ J J J J=>true
def Clean(l:List (jM×Pos)):Prop:=∀x∈l,o6 x.1=true
theorem Clean.push{c:jM}{p:Pos}{l:List (jM×Pos)}(h:Clean l)(hc:o6 c=true):Clean ((c,p)::l):=λx hx=>by
 rcases bq.mp hx with rfl | hx
 ·exact hc
 ·exact h x hx
def ai(M:Model)(A:cA)(t:Sem α)(Q:α->al->Prop)(E:Value->al->Prop)(s:al):Prop :=
 ∀Γ p,Γ.In A->Clean ((Γ.code,p)::Γ.below)->Sem.wp M Γ t (λa J s'=>Q a s') (λe J s'=>E e s') p s
def di(M:Model)(A:cA)(c:jM)(R:uQ->al->Prop)(s:al):Prop :=
 ∀Γ p,Γ.code=c->Γ.Below A->Clean Γ.below->wpCode M Γ R p s
section
variable{α β:Type}{M:Model}{A:cA}{E:Value->al->Prop}{s:al}{ac:Env}
theorem bc{t:Sem α}{Q:α->al->Prop}(h:wpAny M A t Q E s):ai M A t Q E s:=λΓ p dI _=>h Γ p dI
theorem Gn{c:jM}(h:codeAny M A c R s):di M A c R s:=λΓ p hc dI _=>h Γ p hc dI
theorem Clean.at{Γ:Ctx}{p:Pos}(h:Clean ((Γ.code,p)::Γ.below))(p':Pos):Clean ((Γ.code,p')::Γ.below):=λx hx=>by
 rcases bq.mp hx with rfl | hx
 ·exact h (Γ.code,p) Bi
 ·exact h x (List.mem_cons_of_mem _ hx)
theorem eS{t:Sem α}{Q Q':α->al->Prop}{E':Value->al->Prop}(h:ai M A t Q E s)(hQ:∀a s,Q a s->Q' a s)(hE:∀e s,E e s->E' e s):ai M A t Q' E' s :=
 λΓ p dI hc=>x6 M Γ t (λa J s=>hQ a s) (λe J s=>hE e s) p s (h Γ p dI hc)
theorem aE{m:Sem α}{f:α->Sem β}{Q:β->al->Prop}(h:ai M A m (λa s'=>ai M A (f a) Q E s') E s):ai M A (m>>=f) Q E s:=λΓ p dI hc=>by
 exact aa (Sem.wp_bind' ..) (x6 M Γ m (λa p' s' h'=>h' Γ p' dI (hc.at p')) (λJ J J h'=>h') p s (h Γ p dI hc))
theorem nJ{m:Sem α}{k:Value->Sem Unit}{Q:α->al->Prop}(h:ai M A m Q (λJ J=>False) s):ai M A (m.onRaise k) Q E s:=λΓ p dI hc=>by
 exact aa (Sem.wp_onRaise ..) (x6 M Γ m (λJ J J h'=>h') (λe p' s' h'=>h'.elim) p s (h Γ p dI hc))
theorem OZ{m:Sem α}{Q:Except Value α->al->Prop}(h:ai M A m (λa=>Q (.ok a)) (λe=>Q (.error e)) s):ai M A m.attempt Q E s:=λΓ p dI hc=>by
 exact aa (Sem.wp_attempt ..) (h Γ p dI hc)
theorem cj{vs:List Value}{m:Sem α}{Q:α->al->Prop}(h:ai M A m Q E s):ai M A (holding vs m) Q E s:=λΓ p dI hc=>by
 exact aa (Sem.wp_holding ..) (h Γ p dI hc)
theorem O0{vs:List Value}{m:Sem α}{Q:α->al->Prop}(h:ai M A m Q E s):ai M A (m.keep vs) Q E s:=λΓ p dI hc=>by
 exact aa (Sem.wp_keep ..) (h Γ p dI hc)
theorem sU{vs:List Value}{m:Sem Value}(h:ai M A m Q E s):ai M A (operate vs m) Q E s:=λΓ p dI hc=>by
 exact aa (Sem.wp_operate ..) (h Γ p dI hc)
theorem Go{v:Value}{Q:Unit->al->Prop}(h:ai M A (storeName ac x v) Q E s):ai M A (bindName ac x v) Q E s:=λΓ p dI hc=>by
 exact aa (Sem.wp_bindName ..) (h Γ p dI hc)
theorem aY{a:α}{Q:α->al->Prop}(h:Q a s):ai M A (pure a) Q E s:=λJ J J J=>h
theorem g8{Q:Unit->al->Prop}(h:Q () s):ai M A (standAt pos) Q E s:=λJ J J J=>h
theorem Bj{tag:String}{Q:Unit->al->Prop}(h:Q () s):ai M A (rule tag) Q E s:=λJ J J J=>h
theorem Bk{Q:Unit->al->Prop}(h:Q () s):ai M A point Q E s:=λJ J J J=>h
theorem O1{Q:Tok->al->Prop}(h:Q s.toks {s with toks:=s.toks+1}):ai M A fresh Q E s:=λJ J J J=>h
theorem uW{t:Sem α}{a:α}{Q:α->al->Prop}(h:t=pure a)(hQ:Q a s):ai M A t Q E s:=h▸aY hQ
theorem bD{m:Sem α}{f:α->Sem β}{a:α}{Q:β->al->Prop}(h:∀{Q:α->al->Prop},Q a s'->wpAny M A m Q E s)(k:wpAny M A (f a) Q E s'):wpAny M A (m>>=f) Q E s:=au (h k)
theorem kS{m:Sem α}{f:α->Sem β}{a:α}{Q:β->al->Prop}(h:∀{Q:α->al->Prop},Q a s'->wpAny M A m Q E s)(k:ai M A (f a) Q E s'):ai M A (m>>=f) Q E s:=aE (bc (h k))
theorem fB{m:Sem α}{f:α->Sem β}{a:α}{Q:β->al->Prop}(h:∀{Q:α->al->Prop},Q a s'->ai M A m Q E s)(k:ai M A (f a) Q E s'):ai M A (m>>=f) Q E s:=aE (h k)
theorem cw{m:Sem α}{f:α->Sem β}{P:α->al->Prop}{Q:β->al->Prop}(h:ai M A m P E s)(k:∀a s',P a s'->ai M A (f a) Q E s'):ai M A (m>>=f) Q E s:=aE (eS h k λJ J x=>x)
theorem jf{vs:List Value}{m:Sem α}{f:α->Sem β}{P:α->al->Prop}{Q:β->al->Prop}(h:ai M A m P E s)(k:∀a s',P a s'->ai M A (f a) Q E s'):ai M A (holding vs m>>=f) Q E s:=cw (cj h) k
theorem eC{f:Unit->Sem β}{Q:β->al->Prop}(h:ai M A (f ()) Q E s):ai M A (standAt pos>>=f) Q E s:=aE (g8 h)
theorem j'{a:α}{f:α->Sem β}{Q:β->al->Prop}(h:ai M A (f a) Q E s):ai M A (pure a>>=f) Q E s:=aE (aY h)
theorem sV{m:Sem α}{f:α->β}{Q:β->al->Prop}(h:ai M A m (λa s'=>Q (f a) s') E s):ai M A (m>>=λa=>pure (f a)) Q E s:=cw h λJ J x=>aY x
theorem x7{c:jM}{R':uQ->al->Prop}(h:di M A c R s)(hR:∀r s,R r s->R' r s):di M A c R' s:=λΓ p hc dI hcl=>wpCode_mono hR (h Γ p hc dI hcl)
theorem Gp{c:jM}{h:Option Value}{Q:iH->al->Prop}(hc:di M (A.mark h) c (λr s'=>match r with | .ok f=>Q f s' | .error e=>E e s') s)(Bl:h≠some byPass:=by intro x;cases x):ai M A (run c h) Q E s :=
 λΓ p dI hcl=>aa (Sem.wp_run ..) (hc _ p rfl (dI.enter c h p Bl) hcl)
theorem O2{c:jM}(hc:di M A c (λr s'=>match r with | .ok (.ret v)=>Q v s' | .ok _=>False | .error e=>E e s') s):ai M A (runValue c) Q E s :=
 λΓ p dI hcl=>aa (Sem.wp_runValue ..) (hc _ p rfl (dI.enter c none p (by intro x;cases x)) hcl)
theorem o7{f:Value}{pos:List Value}{kw:List (Str×Value)}(hc:di M A (.call f ⟨pos,kw⟩) (λr s'=>match r with | .ok (.ret v)=>Q v s' | .ok _=>False | .error e=>E e s') s):ai M A (call f pos kw) Q E s:=O2 hc
theorem Gq{c:jM}{h:Option Value}{Q:iH->al->Prop}(hc:di M (A.mark h) c (λr s'=>match r with | .ok f=>Q f s' | .error _=>False) s)(Bl:h≠some byPass:=by intro x;cases x):ai M A (runOwn c ac h) Q E s:=by
 unfold runOwn;exact nJ (Gp (x7 hc λr s' q=>by cases r<;>exact q) Bl)
theorem kT{c:jM}(ee:o6 c=true)
  (h:ai M (A.under c) (M.den c) (λbg s'=>match bg with | .done f=>R (.ok f) s' | .again c'=>c'.quiet=true/\di M A c' R s') (λe s'=>R (.error e) s') s):di M A c R s:=λΓ p hc dI hcl=>by
 rewrite [wpCode_iff_wp];subst hc;exact x6 M Γ _ (λbg p' s' x=>by cases bg with
  | done f=>exact x
  | again k=>exact ⟨x.1,x.2 (Γ.goto k) _ rfl (dI.goto k) hcl⟩) (λJ J J x=>x) p s (h Γ p dI.in (hcl.push ee))
theorem Gr{c:jM}(ee:o6 c=true)(hq:c.quiet=true)(I:Nat->al->Prop)
  (turn:∀n s,I n s->ai M (A.under c) (M.den c)
   (λbg s'=>match bg with | .done f=>R (.ok f) s' | .again c'=>(c'=c/\∃m,m<n/\I m s')∨(c'.quiet=true/\di M A c' R s')) (λe s'=>R (.error e) s') s)
  (n:Nat) (h:I n s):di M A c R s :=
 O3 (motive:=λn=>∀s,I n s->di M A c R s) n (λn ih s h=>kT ee (eS (turn n s h) (λbg s' x=>by cases bg with
  | done f=>exact x
  | again k=>exact x.elim (λy=>by obtain ⟨rfl,m,hm,i⟩:=y;exact ⟨hq,ih m hm _ i⟩) λy=>y) λJ J x=>x)) s h
theorem Gs{c:jM}(ee:o6 c=true)(hq:c.quiet=true)(I:Nat->al->Prop)
  (turn:∀n s,I n s->ai M (A.under c) (M.den c) (λbg s'=>match bg with | .done f=>R (.ok f) s' | .again c'=>c'=c/\∃m,m<n/\I m s') (λe s'=>R (.error e) s') s)
  (n:Nat) (h:I n s):di M A c R s:=Gr ee hq I (λn s i=>eS (turn n s i) (λbg s' x=>by cases bg;exact x;exact .inl x) λJ J x=>x) n h
theorem O4
  (h:ai M A (spliced (backTo pos (starEach elts ac))) (λvs aG=>vs.length≤sizeLine/\Q (.ref aG.heap.objs.size) {aG with heap:=aG.heap.push {cls:= .type "tuple",data:= .seq vs.toArray}}) E s):ai M A (eval (.Tuple elts k pos) ac) Q E s:=aa (arm_eval_Tuple ..) (eC (cw h λvs aG x=>bc (qI x.2 (ag (bS fE) x.1))))
theorem O5
  (h:ai M A (spliced (backTo pos (starEach elts ac))) (λvs aG=>vs.length≤sizeLine/\Q (.ref aG.heap.objs.size) {aG with heap:=aG.heap.push {cls:= .type "list",data:= .seq vs.toArray}}) E s):ai M A (eval (.List elts pos) ac) Q E s:=aa (arm_eval_List ..) (eC (cw h λvs aG x=>bc (qI x.2 (ag (bS fE) x.1))))
theorem O6{lower upper step:Option Expr}{p:Pos}
  (h:ai M A (evalPart lower ac) (λl aG=>ai M A (evalPart upper ac) (λu br=>ai M A (evalPart step ac) (λst cD =>
   Q (.ref cD.heap.objs.size) {cD with heap:=cD.heap.push {cls:= .type "slice",data:= .fields #[l,u,st]}}) E br) E aG) E s):ai M A (eval (.Slice lower upper step p) ac) Q E s:=aa (arm_eval_Slice ..) (cw h λl aG bM=>jf bM λu br cM=>jf cM λst cD x=>bc (qI x))
theorem x8(h:ai M A (loadName ac x) Q E s)(hd:(x==("__debug__" :Str))=false:=by decide):ai M A (eval (.Name x pos) ac) Q E s:=aa (eval_Name ac x pos hd) (eC h)
theorem O7{c:Bool}{a b:Sem α}{Q:α->al->Prop}(hc:c=false)(h:ai M A b Q E s):ai M A (if c=true then a else b) Q E s:=by subst hc;exact h
theorem Calls.Name_function_global(hk:ac.scope.kind= .function)(hx:ac.kindOf x=some .globalImplicit)(h:ai M A (loadGlobal ac x) Q E s)(hd:(x==("__debug__" :Str))=false:=by decide) :
  ai M A (eval (.Name x pos) ac) Q E s:=x8 (by
 unfold loadName;exact O7 (aa hk rfl) (aH hx (show ac.blockKind= .function from by unfold Env.blockKind;exact aa hk rfl) h)) hd
theorem O8{body orelse:Expr}
  (h:ai M A (isTrue kR ac (eval kR ac)) (λb aG=>if b then ai M A (eval body ac) Q E aG else ai M A (eval orelse ac) Q E aG) E s):ai M A (eval (.IfExp kR body orelse pos) ac) Q E s:=aa (arm_eval_IfExp ..) (cw h λb aG=>x9 (λx=>x) (λx=>x) b)
theorem Gu{op:UnaryOp}{x:Expr}(h:ai M A (eval x ac) (λv aG=>ai M A (unaryOp op v) Q E aG) E s):ai M A (eval (.UnaryOp op x pos) ac) Q E s:=aa (arm_eval_UnaryOp ..) (cw h λv aG x=>eC (cj x))
theorem O9{l:Expr}{op:o8}(h:ai M A (eval l ac) (λa aG=>ai M A (eval r ac) (λb br=>ai M A (binaryOp op a b) Q E br) E aG) E s):ai M A (eval (.BinOp l op r pos) ac) Q E s:=aa (eval_BinOp ..) (cw h λa aG bM=>jf bM λb br x=>eC (sU x))
theorem Gv{l:Expr}{op:fm}(h:ai M A (eval l ac) (λa aG=>ai M A (eval r ac) (λb br=>ai M A (compareOp op a b) Q E br) E aG) E s)(hm:behindInMarks op r=false) :
  ai M A (eval (.Compare l [op] [r] pos) ac) Q E s:=aa (eval_Compare1 ..) (aa (O' hm) (cw h λa aG bM=>jf bM λb br x=>eC (sU x)))
theorem Pa{l:Expr}{op:fm}{Q:Bool->al->Prop}
  (h:ai M A (eval l ac) (λa aG=>ai M A (eval r ac) (λb br=>ai M A (compareOp op a b) (λc cD=>ai M A (truthy c) Q E cD) E br) E aG) E s) (hm:behindInMarks op r=false):ai M A (isTrue (.Compare l [op] [r] pos) ac sT) Q E s :=
 aa (isTrue_Compare1 ..) (aa (O' hm) (cw h λa aG bM=>jf bM λb br cM=>eC (cw (sU cM) λc cD x=>cj x)))
theorem Pb{x:Expr}{Q:Bool->al->Prop}(h:ai M A (isTrue x ac (eval x ac)) (λb aG=>Q (!b) aG) E s):ai M A (isTrue (.UnaryOp .Not x pos) ac sT) Q E s:=aa (arm_isTrue_UnaryOp ..) (cw h λb aG x=>aY x)
theorem Pc{op:BoolOp}{Gw:List Expr}{Q:Bool->al->Prop}(h:ai M A (allTrue op Gw ac) Q E s):ai M A (isTrue (.BoolOp op Gw pos) ac sT) Q E s:=aa (arm_isTrue_BoolOp ..) h
theorem Pd{x:Expr}{Q:Bool->al->Prop}
  (h:ai M A (isTrue x ac (eval x ac)) (λb aG=>if b then ai M A (allTrue .And dH ac) Q E aG else Q false aG) E s):ai M A (allTrue .And (x::dH) ac) Q E s:=cw (m:=isTrue x ac (eval x ac)) h λb aG=>x9 (λx=>aY x) (λx=>x) b
theorem Pe{x:Expr}{Q:Bool->al->Prop}
  (h:ai M A (isTrue x ac (eval x ac)) (λb aG=>if b then Q true aG else ai M A (allTrue .Or dH ac) Q E aG) E s):ai M A (allTrue .Or (x::dH) ac) Q E s:=cw (m:=isTrue x ac (eval x ac)) h λb aG=>x9 (λx=>x) (λx=>aY x) b
theorem Pf{Q:List Value->al->Prop}
  (h:ai M A (eval e ac) (λv aG=>ai M A (spliced (backTo pos (starEach dH ac))) (λvs br=>Q (v::vs) br) E aG) E s)
  (he:starEach (e::dH) ac=(false,eval e ac)::starEach dH ac:=by rfl):ai M A (spliced (backTo pos (starEach (e::dH) ac))) Q E s:=aa he (cw (m:=eval e ac) h λv aG bM=>j' (jf (m:=spliced (backTo pos (starEach dH ac))) bM λvs br x=>aY x))
theorem Pg{x:Sem Value}{dH:List (Sem Value)}{Q:List Value->al->Prop}(h:ai M A x (λv aG=>ai M A (evalAll dH) (λvs br=>Q (v::vs) br) E aG) E s):ai M A (evalAll (x::dH)) Q E s:=cw (m:=x) h λv aG bM=>jf (m:=evalAll dH) bM λvs br x=>aY x
theorem evalArgs_kw{f:Value}{x:Sem Value}{dH:List (Bool×Sem Value)}{keywords:List (Option Str×Sem Value)}{Q:Args->al->Prop}(mJ:keywords.all (λz=>z.1.isSome)=true)
  (h:ai M A (spliced ((false,x)::dH)) (λvs aG=>ai M A (evalAll (keywords.map (λz=>z.2))) (λks br=>Q ⟨vs,(keywords.filterMap (λz=>z.1)).zip ks⟩ br) E aG) E s):ai M A (evalArgs f true ((false,x)::dH) keywords) Q E s:=by
 unfold evalArgs;exact cw (m:=spliced ((false,x)::dH)) h λvs aG bM=>cj (aa (if_pos mJ) (cw bM λks br x=>j' (aY x)))
theorem evalArgs_kw_nil{f:Value}{keywords:List (Option Str×Sem Value)}{Q:Args->al->Prop}(mJ:keywords.all (λz=>z.1.isSome)=true)
  (h:ai M A (evalAll (keywords.map (λz=>z.2))) (λks br=>Q ⟨[],(keywords.filterMap (λz=>z.1)).zip ks⟩ br) E s):ai M A (evalArgs f true [] keywords) Q E s:=by
 unfold evalArgs;exact aE (m:=spliced []) (bc (ag0 (j' (cj (aa (if_pos mJ) (cw h λks br x=>j' (aY x)))))))
theorem Subscript_{slice:Expr}(h:ai M A (eval value ac) (λo aG=>ai M A (eval slice ac) (λi br=>ai M A (subscriptTail value slice o i) Q E br) E aG) E s) :
  ai M A (eval (.Subscript value slice pos) ac) Q E s:=aa (eval_Subscript ..) (cw h λo aG bM=>jf bM λi br x=>eC x)
theorem kla_eval{params:sW}{body:Expr}(hdef:defaultsOf params ac=([],[]))(h:ai M A (makeFunction "<lambda>" (ac.qual++ "<lambda>") params (.expr body) scope ac [] [] [] pos pos.line) Q E s) :
  ai M A (eval (.Lambda params body scope pos) ac) Q E s:=aa (arm_eval_Lambda ..) (aa hdef (j' (a:=([]:List Value)) (aE (cj (m:=evalAllOpt []) (aY h)))))
theorem Bm{Q:iH->al->Prop}(h:Q .next s):ai M A (execs [] ac) Q E s:=λJ J J J=>h
theorem Ph{st:fM}{dH:List fM}{Q:iH->al->Prop}(h:ai M A (exec st ac) (λf s'=>match f with | .next=>ai M A (execs dH ac) Q E s' | f=>Q f s') E s):ai M A (execs (st::dH) ac) Q E s:=aa (execs_cons ..) (cw h λf s' x=>by cases f<;>first | exact x | exact aY x)
theorem Pi{Q:iH->al->Prop}(h:ai M A (eval e ac) (λv=>Q (.ret v)) E s):ai M A (exec (.Return (some e) pos) ac) Q E s:=aa (exec_Return_some ..) (eC (sV h))
theorem Pj{Q:iH->al->Prop}(h:Q (.ret .none) s):ai M A (exec (.Return none pos) ac) Q E s:=λJ J J J=>h
theorem Pk{body:List fM}{Q:iH->al->Prop}
  (h:ai M A (isTrue kR ac (eval kR ac)) (λb br=>if b then ai M A (execs body ac) Q E br else ai M A (execs orelse ac) Q E br) E s):ai M A (exec (.If kR body orelse pos) ac) Q E s:=aa (exec_If ..) (eC (cw h λb br=>x9 (λx=>x) (λx=>x) b))
theorem Pl{body:List fM}{Q:iH->al->Prop}(h:di M A (.whileLoop kR body orelse ac) (λr s'=>match r with | .ok f=>Q f s' | .error _=>False) s):ai M A (exec (.While kR body orelse pos) ac) Q E s:=aa (exec_While ..) (eC (Gq h))
theorem Pm{iter:Expr}{body:List fM}{Q:iH->al->Prop}
  (h:ai M A (eval iter ac) (λx aG=>ai M A (pyIter x) (λit br=>di M A (.forLoop target it body orelse ac) (λr s'=>match r with | .ok f=>Q f s' | .error _=>False) br) E aG) E s)
  (hs:∀x,foldedSetIterable iter ac x=pure x:=by intro _;rfl):ai M A (exec (.For target iter body orelse pos) ac) Q E s :=
 aa (exec_For ..) (eC (cw h λx aG bM=>aE (uW (hs x) (eC (jf bM λit br cM=>Gq cM)))))
theorem Pn{v:Value}{Q:Unit->al->Prop}(h:ai M A (storeName ac x v) Q E s):ai M A (assign (.Name x pos) ac v) Q E s:=aa (PySem.assign_Name ..) (eC (Go h))
theorem Po{targets:List Expr}{Q:iH->al->Prop}
  (h:ai M A (eval value ac) (λv aG=>ai M A (assignAll v ((assignEach targets ac).map (λz=>z.2))) (λJ=>Q .next) E aG) E s)
  (hs:swapsWithSole targets value pos.line ac=pure false) (hw:swappedStores targets value ac=pure none):ai M A (exec (.Assign targets value pos) ac) Q E s:=aa (Pp ..) (eC (aa hs (j' (aa (if_neg ka) (cw h λv aG x=>aa hw (j' (sV (m:=assignAll v ((assignEach targets ac).map (λz=>z.2))) x)))))))
theorem Assign_Tuple{nK:Pos}{Q:iH->al->Prop}
  (h:ai M A (eval value ac) (λv aG=>ai M A (assign (.Tuple elts k nK) ac v) (λJ=>Q .next) E aG) E s)
  (hs:swapsWithSole [.Tuple elts k nK] value pos.line ac=pure false:=by rfl) (hw:swappedStores [.Tuple elts k nK] value ac=pure none:=by rfl):ai M A (exec (.Assign [.Tuple elts k nK] value pos) ac) Q E s:=aa (exec_Assign ..) (eC (aa hs (j' (aa (if_neg ka) (cw h λv aG x=>aa hw (j' (sV (m:=assignAll v [assign (.Tuple elts k nK) ac]) x)))))))
theorem Assign_Tuple_swapped{nK:Pos}{Q:iH->al->Prop}
  (h:ai M A (eval value ac) (λv aG=>ai M A (unpackItems v names.length none) (λitems br=>ai M A (assignInOrder (names.reverse.map λn=>bindName ac n) items.reverse) (λJ=>Q .next) E br) E aG) E s)
  (hs:swapsWithSole [.Tuple elts k nK] value pos.line ac=pure false:=by rfl) (hw:swappedStores [.Tuple elts k nK] value ac=pure (some names):=by rfl):ai M A (exec (.Assign [.Tuple elts k nK] value pos) ac) Q E s:=aa (exec_Assign ..) (eC (aa hs (j' (aa (if_neg ka) (cw h λv aG bM=>aa hw (j' (aE (m:=rule "assign.swapped-stores") (Bj (cw bM λitems br x=>sV x)))))))))
theorem Pq{o i:Expr}{mK:Pos}{op:o8}{Q:iH->al->Prop}
  (h:ai M A (eval o ac) (λov aG=>ai M A (eval i ac) (λiv br=>ai M A (getItem ov iv) (λold cD =>
   ai M A (eval value ac) (λv mL=>ai M A (inplaceOp op old v) (λnew qJ=>ai M A (setItem ov iv new) (λJ=>Q .next) E qJ) E mL) E cD) E br) E aG) E s)
  (ha:∀ov iv new,augStore i ov iv new=(do holding [new,ov,iv] (setItem ov iv new);release [new,ov,iv] [];pure .next):=by intro _ _ _;rfl):ai M A (exec (.AugAssign (.Subscript o i mK) op value pos) ac) Q E s :=
 eC (cw (m:=eval o ac) h λov aG bM=>jf bM λiv br cM =>
  jf (eC (cw (m:=getItem ov iv) cM λold cD mM=>jf mM λv mL qK=>eC (sU qK))) λnew qJ o9 =>
   eC (aa (ha ..) (jf o9 λJ ag1 x=>aE (bc (wpAny_releaseD (show ai _ _ _ _ _ _ from aY x))))))
end
section
variable{prog:dN}{w:cO}{A:cA}{E:Value->al->Prop}{R:uQ->al->Prop}{s:al}{ac:Env}
theorem Pr{Q:iH->al->Prop}(h:ai (model prog w) A (eval e ac) (λJ=>Q .next) E s)
  (hi:interactive ac=false:=by rfl) (hs:swapsWith e none pos.line ac=pure false:=by rfl):ai (model prog w) A (exec (.Expr e pos) ac) Q E s:=aa (exec_Expr ac e pos hi hs) (eC (cw h λv s' x=>bc (wpAny_dropValue x)))
theorem Ps{t:Addr}{items:Array Value}{Q:Unit->al->Prop}(hh:A.handled=none)(ht:s.heap.IsTuple t items)(hn:targets.length=items.size)(qL:targets.findIdx? (λz=>z.1)=none)
  (h:∀h',Bn s.heap.objs.size s.heap h'->ai (model prog w) A (assignInOrder (targets.map (λz=>z.2)) items.toList) Q E {s with heap:=h'}):ai (model prog w) A (unpack (.ref t) targets) Q E s:=by
 unfold unpack;exact aH hn qL (aE (cj (bc (wpAny_unpackItems_tuple hh ht h))))
theorem Pu{c:Expr}{Q:Bool->al->Prop}(h:ai (model prog w) A (isTrue c ac (eval c ac)) Q E s) :
  ai (model prog w) A (forIn [c] true λc r=>if r=true then do let ok<-isTrue c ac (eval c ac);pure (ForInStep.yield ok) else pure (ForInStep.yield r)) Q E s :=
 aa (pd ..) (cw (P:=λy s'=>∃b,y= .yield b/\Q b s') (sV (m:=isTrue c ac (eval c ac)) (f:=λb=>ForInStep.yield b) (eS h (λb s' x=>⟨b,rfl,x⟩) λJ J x=>x)) λy s' x=>by obtain ⟨b,rfl,x⟩:=x;exact aY x)
theorem Pv{body:List fM}(h:ai (model prog w) (A.deeper ac) (execs body ac) (λf s'=>R (.ok (.ret (match f with | .ret v=>v | _=> .none))) s') (λJ J=>False) s):di (model prog w) A (.func body ac) R s:=kT rfl (aE (m:=point) (Bk (cw (m:=(execs body ac).onRaise (leaving ac)) (nJ h) λf s' x=>by cases f<;>exact aY x)))
theorem Gx{args:Args}{code:Env->jM}{c:Addr}{oc:Obj}{vs:Array Value}{tq:Tok}{Q:Fin->al->Prop}(sX:fd.scope.isCoroutine=false)(qM:fd.scope.isGenerator=false)(ya:∀ac,(match fd.body with | .stmts b=>jM.func b ac | .expr e=> .expr e ac)=code ac)
  (hc:fd.code= .ref c) (uX:s.heap.get? c=some oc) (uY:oc.data= .fields vs) (hq:vs[1]? =some (.str fd.qualname tq))
  (h:ai (model prog w) A (bindArgs fd args) (λpe aG=>ai (model prog w) A (newFunctionEnv fd.scope fd.globals fd.closure pe (fd.qualname++ ".<locals>.") (some a) fd.code none fd.builtins) (λac br=>ai (model prog w) A enterFrame (λJ cD=>Q (.again (code ac)) cD) E br) E aG) E s):ai (model prog w) A (callFunction a fd args) Q E s:=by
 unfold callFunction;rw [hc] at h ⊢
 refine fB (m:=field (.ref c) 1) (λq=>bc (gG uX uY hq q)) (fB (λq=>aY q) ?_);refine aE (eS h (λpe aG bM=>aE (eS bM (λac br cM=>aE (eS cM (λJ cD mM=> ?_) λJ J h'=>h')) λJ J h'=>h')) λJ J h'=>h');exact aH qM sX (aY ((congrArg (λk=>Q (.again k) cD) (ya ac)).mpr mM))
theorem Pw{args:Args}{o:Obj}{body:List fM}(Bo:A.depth<recursionLimit)(ho:s.heap.get? a=some o)
  (fF:o.data= .func fd) (sX:fd.scope.isCoroutine=false) (qM:fd.scope.isGenerator=false) (pf:fd.body= .stmts body) (Bp:s.heap.CodeRec fd.code fd.qualname)
  (h:ai (model prog w) A.in1 (bindArgs fd args) (λpe aG =>
   ai (model prog w) A.in1 (newFunctionEnv fd.scope fd.globals fd.closure pe (fd.qualname++ ".<locals>.") (some a) fd.code none fd.builtins)
    (λac br=>br.heap.NoLimit/\di (model prog w) A (.func body ac) R br) (λe s'=>R (.error e) s') aG) (λe s'=>R (.error e) s') s):di (model prog w) A (.call (.ref a) args) R s:=by
 refine kT rfl (fB (m:=load a) (λq=>bc (qN ho q)) ?_);refine aa fF ?_;obtain ⟨c,oc,vs,tq,hc,uX,uY,hq⟩:=Bp;exact Gx (code:=λac=> .func body ac) sX qM (λJ=>aa pf rfl) hc uX uY hq (eS h (λpe aG bM=>eS bM (λac br cM=>bc (Px cM.1 Bo ⟨rfl,cM.2⟩)) λJ J h'=>h') λJ J h'=>h')
theorem Py{body:List fM}(I:Nat->al->Prop)
  (turn:∀n s,I n s->ai (model prog w) A (isTrue kR ac (eval kR ac)) (λb br =>
    if b then ai (model prog w) A (execs body ac) (λf cD=>match f with
      | .next | .cont=>∃m,m<n/\I m cD
      | .brk=>R (.ok .next) cD
      | .ret v=>R (.ok (.ret v)) cD) (λJ J=>False) br
    else ai (model prog w) A (execs orelse ac) (λf cD=>R (.ok f) cD) (λJ J=>False) br) (λJ J=>False) s)
  (n:Nat) (h:I n s):di (model prog w) A (.whileLoop kR body orelse ac) R s :=
 Gs rfl rfl I (λn s i=>nJ (m:=whileTurn kR body orelse ac) (by
  unfold whileTurn;refine cw (turn n s i) λb br=>x9 (λx=>sV x) (λx=>cw x λf cD y=> ?_) b;cases f<;>first | exact aY ⟨rfl,y⟩ | exact aY y)) n h
theorem Pz{stmts:List fM}(h:ai (model prog w) A (execs stmts ac) (λf s'=>R (.ok f) s') (λJ J=>False) s):di (model prog w) A (.block stmts ac) R s:=kT rfl (cw (m:=(execs stmts ac).onRaise _) (nJ h) λf s' x=>aY x)
theorem PA{it:Value}{body:List fM}(I:Nat->al->Prop)
  (turn:∀n s,I n s->ai (model prog w) A (pyNext it) (λr aG=>match r with
   | none=>ai (model prog w) A (execs orelse ac) (λf cD=>R (.ok f) cD) (λJ J=>False) aG
   | some v=>ai (model prog w) A (letOwnedTupleGo target it v) (λJ Gy =>
     ai (model prog w) A (assign target ac v) (λJ br=>ai (model prog w) A (execs body ac) (λf cD=>match f with
      | .next | .cont=>∃m,m<n/\I m cD
      | .brk=>R (.ok .next) cD
      | .ret v=>R (.ok (.ret v)) cD) (λJ J=>False) br) (λJ J=>False) Gy) (λJ J=>False) aG) (λJ J=>False) s)
  (n:Nat) (h:I n s):di (model prog w) A (.forLoop target it body orelse ac) R s :=
 Gr rfl rfl I (λn s i=>nJ (m:=forTurn target it body orelse ac) (by
  unfold forTurn;refine eC (cw (nJ (turn n s i)) λr aG bM=> ?_);cases r with
  | none=>exact aY (.inr ⟨rfl,Pz bM⟩)
  | some v =>
   refine cw bM λJ Gy PB=>cw PB λJ br cM=>cw cM λf cD y=> ?_;cases f<;>first | exact aY (.inl ⟨rfl,y⟩) | exact aY y)) n h
theorem PC{cF iter:Expr}{ifs:List Expr}{dH:List uZ}{it acc:Value}
  (h0:di (model prog w) A (.compLoop (.ListComp cF (⟨target,iter,ifs,0⟩::dH) scope pos) 0 it acc ac) R s)
  (h:ai (model prog w) A (pyIter it) (λgw s'=>di (model prog w) A (.compLoop (.ListComp cF (⟨target,iter,ifs,0⟩::dH) scope pos) 0 gw acc ac) R s') (λJ J=>False) s) :
  di (model prog w) A (.compStart (.ListComp cF (⟨target,iter,ifs,0⟩::dH) scope pos) 0 it acc ac) R s:=kT rfl (nJ (m:=compStart (.ListComp cF (⟨target,iter,ifs,0⟩::dH) scope pos) 0 it acc ac) (by
 unfold compStart;refine aE (m:=ask) (bc (PD ?_))
 split
 ·exact j' (aY ⟨rfl,h0⟩)
 ·exact aE (Bj (eC (cw h λk s' x=>aY ⟨rfl,x⟩)))))
end
section
variable{M:Model}{A:cA}{s:al}{ac:Env}
def Gz(M:Model)(A:cA)(use:Option (Value->Sem Unit))(Q:Value->al->Prop)(acc:Value)(C:Addr)(r:uQ)(s':al):Prop :=
 match r,use with
 | .ok _,none=>∃m,s'.heap.Ns C m/\∀h',iI C s'.heap h'->Q acc {s' with heap:=h'}
 | .ok _,some u=>ai M A (u acc) (λJ sY=>∃m,sY.heap.Ns C m/\∀h',iI C sY.heap h'->Q .none {sY with heap:=h'}) (λJ J=>False) s'
 | .error _,_=>False
theorem PE{c:Prop} [Decidable c]{k:PUnit->Sem α}{Q:α->al->Prop}(h:ai M A (k ()) Q E s):ai M A (if c then (standAt pos>>=k) else k ()) Q E s:=by
 split
 ·exact eC h
 ·exact h
theorem PF{GA first:Sem Value}{g:uZ}{gs:List uZ}{cl:List (Str×Addr)}{use:Option (Value->Sem Unit)}
  (hcl:clausesOf e=g::gs) (hs:∀x,foldedSetIterable g.iter ac x=pure x) (PG:closureFor scope ac=pure cl)
  (nM:scope.kind= .function) (mN:∀x∈scope.names,x.2= .local->scope.names.lookup x.1=some .local)
  (h:ai M A first (λx aG=>ai M A (pyIter x) (λit br=>ai M A GA (λacc cD =>
   ai M A (newFunctionEnv scope ac.globals cl [] ac.qual none .none (some ac)) (λcenv mL =>
    di M A (.compStart e 0 it acc {cenv with scope:=relabel scope ac}) (Gz M A use Q acc cenv.locals) mL) (λJ J=>False) cD) (λJ J=>False) br) (λJ J=>False) aG) (λJ J=>False) s) :
  ai M A (comprehension e scope ac pos GA false first use) Q (λJ J=>False) s:=by
 have names:∀{l:List (Str×ce)} {cenv:Env},(∀x∈l,x∈scope.names)->∀x∈l,x.2= .local->Env.kindOf {cenv with scope:=relabel scope ac} x.1=some .local:=λsub x h e=>lookup_relabel_local (mN x (sub x h) e)
 have kept:∀{p:Str×ce->Bool},∀x∈(scope.names.filter p).reverse,x∈scope.names:=λx h=>(Bq.mp (PH.mp h)).1
 unfold comprehension;refine aH PG hcl (cw h λx aG bM=>eC (aE (uW (hs x) (jf bM λit br cM=>PE (cw cM λacc cD mM=>j' (cw mM λcenv mL qK=> ?_))))));refine cj (aE (OZ (cj (Gp (x7 qK λr s' y=> ?_)))))
 have cP:∀{l:List (Str×ce)} {c:List (Str×ce)->List Value} {m:Str->Option Value} {s:al} {P:Unit->al->Prop},(∀x∈l,x∈scope.names)->s.heap.Ns cenv.locals m->(∀h',iI cenv.locals s.heap h'->P () {s with heap:=h'})->ai M A (comprehension.letGo {cenv with scope:=relabel scope ac} c l) P (λJ J=>False) s:=λsub hn k=>bc (wpAny_comp_letGo (cenv:={cenv with scope:=relabel scope ac}) nM _ _ _ (names sub) hn λh' m' J e=>k h' e)
 match r,use with
 | .ok f,none =>
  obtain ⟨m,hn,y⟩:=y;exact aE (cj (cP kept hn λh' e=>aY (y h' e)))
 | .ok f,some u =>
  refine aE (Bj (jf y λJ sY y=> ?_));obtain ⟨m,hn,y⟩:=y;exact aE (cP (λx h=>kept x ((jg.mp h).elim nN pg)) hn λh' e=>aY (y h' e))
 | .error x,_=>exact y.elim
end
end
noncomputable def PI:=λ{a} {b} {c} {d} {e} {f} {g} h=>bc (@PySem.wpAny_items_nil a b c d e f g h)
noncomputable def PJ:=λ{a} {b} {c} {d} {e} {f} {g} {h} i j=>bc (@PySem.wpAny_pyIter_tuple a b c d e f g h i j)
noncomputable def PK:=λ{a} {b} {c} {d} {e} {f} {g} {h} {i} j=>bc (@PySem.wpAny_Constant_bool a b c d e f g h i j)
noncomputable def Calls.loadGlobal_builtin:=λ{a} {b} {c} {d} {e} {f} {g} {h} {i} {j} k l m n o=>bc (@ag2 a b c d e f g h i j k l m n o)
noncomputable def storeName_free:=λ{a} {b} {c} {d} {e} {f} {g} {h} {i} {j} k l m n o=>bc (@PySem.W.storeName_free a b c d e f g h i j k l m n o)
noncomputable def PL:=λ{a} {b} {c} {d} {e} {f} {g} {h} {i} j k l=>bc (@gb a b c d e f g h i j k l)
noncomputable def PM:=λ{a} {b} {c} {d} {e} {f} {g} {h} {i} j k=>bc (@PySem.wpAny_pyIter_listiter a b c d e f g h i j k)
noncomputable def GB:=λ{a} {b} {c} {d} {e} {f} {g} {h} {i} j k l m n=>bc (@PySem.wpAny_loadName_local a b c d e f g h i j k l m n)
noncomputable def GC:=λ{a} {b} {c} d e f g h i j=>bc (@PySem.wpAny_layCells a b c d e f g h i j)
noncomputable def GD:=λ{a} {b} {c} {d} {e} {f} {g} {h} {i} j k l m n o=>bc (@PySem.wpAny_loadName_free a b c d e f g h i j k l m n o)
noncomputable def PN:=λ{a} {b} {c} {d} {e} {f} {g} {h} {i} j=>bc (@PO a b c d e f g h i j)
noncomputable def sZ:=λ{a} {b} {c} {d} {e} {f} g=>bc (@GE a b c d e f g)
noncomputable def PP:=λ{a} {b} {c} {d} {e} {f} {g} {h} {i} {j} {k} {l} {m} n o p=>bc (@PySem.wpAny_pyIter_range a b c d e f g h i j k l m n o p)
noncomputable def PQ:=λ{a} {b} {c} {d} {e} {f} {g} h=>bc (@PySem.wpAny_tests_nil a b c d e f g h)
noncomputable def Br:=λ{a} {b} {c} {d} {e} {f} {g} {h} i j=>bc (@Bs a b c d e f g h i j)
noncomputable def PR:=λ{a} {b} {c} {d} {e} {f} {g} {h} {i} j k l m=>bc (@PySem.wpAny_storeName_local a b c d e f g h i j k l m)
noncomputable def PS:=λ{a} {b} {c} {d} {e} {f} {g} {h} {i} {j} k l m n o=>bc (@PySem.wpAny_storeName_cell a b c d e f g h i j k l m n o)
noncomputable def u0:=λ{a} {b} {c} {d} {e} {f} {g} h i=>bc (@qN a b c d e f g h i)
noncomputable def PT:=λ{a} {b} {c} {d} {e} {f} {g} {h} i=>bc (@PySem.wpAny_Constant_none a b c d e f g h i)
noncomputable def Bt:=λ{a} {b} {c} {d} {e} {f} {g} {h} {i} {j} k l=>bc (@PySem.wpAny_pyIter_enum a b c d e f g h i j k l)
noncomputable def GF:=λ{a} {b} {c} {d} {e} {f} g=>bc (@PySem.wpAny_alloc a b c d e f g)
noncomputable def call_range_1:=λ{a} {b} {c} {d} {e} {f} {g} {h} i=>bc (@PySem.call_range_1 a b c d e f g h i)
noncomputable def unpackItems_tuple:=λ{a} {b} {c} {d} {e} {f} {g} {h} i j k=>bc (@ag3 a b c d e f g h i j k)
noncomputable def call_range_2:=λ{a} {b} {c} {d} {e} {f} {g} {h} {i} {j} k=>bc (@PySem.call_range_2 a b c d e f g h i j k)
noncomputable def Calls.loadGlobal_global:=λ{a} {b} {c} {d} {e} {f} {g} {h} {i} j k l=>bc (@ag4 a b c d e f g h i j k l)
noncomputable def PU:=λ{a} {b} {c} {d} {e} {f} {g} {h} {i} j=>bc (@PySem.wpAny_Constant_int a b c d e f g h i j)
noncomputable def PV:=λ{a} {b} {c} {d} {e} {f} {g} {h} {i} {j} k l m n o=>bc (@PW a b c d e f g h i j k l m n o)
noncomputable def PX:=λ{a} {b} {c} {d} {e} {f} {g} {h} {i} j k l m n=>bc (@PySem.wpAny_loadName_cell a b c d e f g h i j k l m n)
noncomputable def call_enumerate_list:=λ{a} {b} {c} {d} {e} {f} {g} {h} i j=>bc (@PySem.call_enumerate_list a b c d e f g h i j)
noncomputable def PY:=λ{a} {b} {c} {d} {e} f=>bc (@PySem.wpAny_evalAll_nil a b c d e f)
noncomputable def PZ:=λ{a} {b} {c} {d} {e} {f} {g} h=>bc (@PySem.wpAny_release a b c d e f g h)
structure ph(s:al)(v:Value)(s':al):Prop where
 yes:v= .bool true
 old:OldK s.heap s'.heap
 os:s'.os=s.os
 gens:s'.gens= #[]
noncomputable abbrev yb:Ctx:=⟨.builtin "claim.caller" {},none,none,[],none⟩
theorem P0(p:Pos):Clean ((yb.code,p)::yb.below):=Clean.push (λx h=>absurd h dJ) (by decide +kernel)
theorem P1{w:cO}{t:Sem Fin}(z:s.asleep)(h:ai (model prog w) callerA t (λx s'=>x= .done (.ret (.bool true))/\ph s (.bool true) s') (λJ J=>False) s) :
  ∃n s',schedN (denote table) prog w n (.single s ⟨t, .builtin "claim.caller" {},default,[]⟩)= .halted (.done (.ret (.bool true))) s'/\s'.heap.life=s.heap.life/\s'.os=s.os/\OldK s.heap s'.heap:=by
 obtain ⟨n,r,σ,s',hs,hr,hf,e,k⟩:=wp_halts_full (M:=model prog w) (R:=λr s'=>r= .ok (.ret (.bool true))/\ph s (.bool true) s') z
  (x6 _ yb t (λx p s' q=>by obtain ⟨rfl,q⟩:=q;exact ⟨⟨rfl,q⟩,leftWithCleanup_false_of_bare (ag5 q.gens)⟩) (λJ J J q=>q.elim) default s (h yb default caller_in (P0 _)))
 subst e
 have F:=ag6 hf
 exact ⟨n,s',hs,runN_life _ _ _ hr,F.2.2.2.1.trans k.os,F.1▸k.old⟩
theorem P2{M:Model}{n:Str}{vs:List Value}{mg:Str->Option Value}(hg:s.heap.Ns mainGlobals mg)(e:mg n=some (.ref a))(h:ai M callerA (yc (.ref a) vs) (ph s) (λJ J=>False) s) :
  ai M callerA (callStub n vs).cur (λx s'=>x= .done (.ret (.bool true))/\ph s (.bool true) s') (λJ J=>False) s:=by
 unfold callStub;exact aE (bc (wpAny_nsGet hg (aa e (aE (eS h (λv s' x=>aY ⟨x.yes▸rfl,x.yes▸x⟩) λJ J x=>x)))))
theorem P3{l:yd}{w:cO}{free:Addr->Prop}{gens:Prop}{kept:Heap->Prop}(z:s.asleep)(g:s.gens= #[])(hk:∀h,kept h)
  (step:∀args vs aG as,l.row.toRowW.claim.pre args=true->Laid [] w s aG args vs as->ai (model l.prog w) callerA (callStub l.name vs).cur (λx s'=>x= .done (.ret (.bool true))/\ph aG (.bool true) s') (λJ J=>False) aG) :
  l.row.toRowW.claim.CallFrom (callStub l.name) w free gens kept s:=by
 intro args pre lay ord GG;obtain ⟨⟨vs,aG⟩,e⟩:=Option.isSome_iff_exists.mp (layAllW_isSome (R:= []) (cl:=classAt s.heap) (P:=w.params) (ord:=ord) (λc h=>nomatch h) args _ s (pre_splitW pre).1)
 have A:=layAllW_rest _ _ _ e
 obtain ⟨as,rd,within,old⟩:=reads_layAllW GG _ _ _ e lay aG.heap λJ J e=>e;obtain ⟨n,s',run,life,os,k⟩:=P1 (ag7 A.2.2.2 z) (step args vs aG as pre ⟨⟨ord,GG,e⟩,rd,within,old,layAllW_keeps _ _ _ e,A.1.trans g,A.2.2.1⟩);refine ⟨vs,aG,e,n,_,s',run, .inl ⟨.bool true,rfl,λJ=>rfl,⟨.bool true,args,[],as, .bool _,rd.keepsK λb o e c=>k.get_of_cls e c, ?_,λJ=>⟨ye,λa h=>absurd h dJ,λa h=>absurd h dJ⟩,λJ J=>ident_freeW rfl rfl rfl _ _⟩,λi h=>nn h,λb o h J J J=>k.old b o h,λi h=>absurd h dJ⟩,λJ i x h=> ?_,hk _,congrArg Life.seen (life.trans A.2.2.2),ag8 (os.trans A.2.2.1)⟩
 ·change (P4 .res (.lit (.bool true))).holds _ _=true;unfold P5;exact aa (show (P4 .res (.lit (.bool true))).value l.row.records {args:=args,res:=some (.bool true),after:=args}=some (.bool true) by simp [P6,same]) rfl
 ·rw [g] at h
  exact absurd (Array.getElem?_empty.symm.trans h) nn
structure Cx where
 prog:dN
 w:cO
 K:eD
 h₀:Heap
 os:OsState
 tabs:List (Addr×Addr×Str)
noncomputable abbrev Cx.M(X:Cx):Model:=model X.prog X.w
def u4(X:Cx)(U:Addr->Prop)(h:Heap):Prop :=
 ∀t∈X.tabs,∃ps,h.get? t.2.1=some (tabObj ps)/\TriplesOk ps.toList/\∀pos cv,codeAmong pos ps.toList=some cv->∃co,cv= .ref co/\U co/\h.CodeRec (.ref co) t.2.2
def gH(h:Heap)(a:Addr)(items:Array Value):Prop:=∃o,h.get? a=some o/\o.cls= .type "list" /\o.dict=none/\∃n,o.data= .seq items n
theorem gH.list{h:Heap}{items:Array Value}(x:gH h a items):h.IsList a items:=qE x λo e c J d=>⟨o,e,c,d⟩
def pi(U:Addr->Prop)(κ:bI)(h:Heap)(a:Addr):d8->Prop
 | .list vs=>∃items:List Value,gH h a items.toArray/\aN U h vs items
 | .dh b=>h.get? a=some {cls:= .type "bytearray",data:= .bytearray b.toArray}
 | .inst C fs=>∃d es n,h.get? a=some (instObj C d)/\h.get? d=some (dictOf es n)/\κ d= .dict a/\gv U h fs es
structure bk(X:Cx)(σ:aq)(κ:bI)(s:al):Prop where
 keep:∀b o,X.h₀.get? b=some o->s.heap.get? b=some o
 os:s.os=X.os
 gens:s.gens= #[]
 tabs:u4 X (aj σ κ) s.heap
 base:∀a o,X.h₀.get? a=some o->aj σ κ a
 lt:∀a,¬ aj σ κ a->∃o,s.heap.get? a=some o
 fr:∀a L,κ a= .frame L->κ L= .frame L
 excl:∀a,σ a≠none->κ a= .none
 own:∀a o,σ a=some o->pi (aj σ κ) κ s.heap a o
 dict:∀d a,κ d= .dict a->∃C fs,σ a=some (.inst C fs)/\s.heap.get? a=some (instObj C d)
 tab:∀t∈X.tabs,κ t.2.1= .tab
inductive Loc where
 | loc (a:Addr) (x:Str)
 | cell (c:Addr)
noncomputable def Loc.P7(l:Loc):Bool:=l.casesOn (λJ J=>false) λJ=>true
theorem GH{c:Addr}{C:Prop}(e:Loc.loc a x= .cell c):C:=ff (congrArg Loc.P7 e)
noncomputable def Loc.addr:Loc->Addr
 | .loc a _=>a
 | .cell c=>c
def lO(h:Heap):Loc->Value->Prop
 | .loc a x,y=>∃m,h.Ns a m/\m x=some y
 | .cell c,y=>h.IsCell c (some y)
def pj(L:Addr)(h:Heap):Loc->Prop
 | .loc a _=>a=L
 | .cell c=>c≠L/\∃v,h.IsCell c v
structure gc(L:Addr)(ae:List Loc)(m:List (Option ab))(fz:List Nat)(σ:aq)(κ:bI)(h:Heap):Prop where
 tag:κ L= .frame L
 ns:∃ml,h.Ns L ml
 len:m.length=ae.length
 lt:∀(i:Nat) l,ae[i]? =some l->∃o,h.get? l.addr=some o
 vals:∀(i:Nat) v,m[i]? =some (some v)->∃l y,ae[i]? =some l/\lO h l y/\am (aj σ κ) h v y
 rd:∀(i:Nat) l,ae[i]? =some l->i∈fz->aj σ κ l.addr∨∃L',(L'≠L/\l.addr<L)/\κ l.addr= .frame L'
 wr:∀(i:Nat) l,ae[i]? =some l->i∉fz->κ l.addr= .frame L/\pj L h l
 nodup:∀(i j:Nat) l,i∉fz->ae[i]? =some l->ae[j]? =some l->i=j
structure St where
 m:List (Option ab)
 fz:List Nat
 σ:aq
variable {K:ab->St->Prop}{st:St}
structure Rel(X:Cx)(L:Addr)(ae:List Loc)(st:St)(κ:bI)(s:al):Prop where
 g:bk X st.σ κ s
 f:gc L ae st.m st.fz st.σ κ s.heap
structure be(ex:Addr->Prop)(σ:aq)(κ:bI)(h:Heap)(σ':aq)(κ':bI)(h':Heap):Prop where
 bb:c7 (aj σ κ) h (aj σ' κ') h'
 frames:∀a o L,κ a= .frame L->¬ ex L->h.get? a=some o->κ' a= .frame L/\h'.get? a=some o
 qO:∀a o L,κ a= .frame L->h.get? a=some o->(κ' a= .frame L∨aj σ' κ' a)/\∃o',h'.get? a=some o'
theorem be.refl{ex σ κ h}:be ex σ κ h σ κ h:=⟨.refl,λJ J J e J g=>⟨e,g⟩,λJ J J e g=>⟨.inl e,_,g⟩⟩
theorem be.trans{ex σ κ h σ' κ' h' σ'' yf iG}(x:be ex σ κ h σ' κ' h')(y:be ex σ' κ' h' σ'' yf iG):be ex σ κ h σ'' yf iG :=
 ⟨x.bb.trans y.bb,λa o L e ne g=>dP (x.frames a o L e ne g) λe' g'=>y.frames a o L e' ne g',λa o L e g=>let ⟨q,o',g'⟩:=x.qO a o L e g;q.elim (λq=>y.qO a o' L q g') λu=>dP (y.bb a o' u g') λu' P8=>⟨.inr u',o',P8⟩⟩
theorem be.weaken{ex u5:Addr->Prop}{σ κ h σ' κ' h'}(x:be ex σ κ h σ' κ' h')(w:∀L,ex L->u5 L):be u5 σ κ h σ' κ' h' :=
 ⟨x.bb,λa o L e ne g=>x.frames a o L e (λq=>ne (w L q)) g,x.qO⟩
theorem be.fresh{ex u5:Addr->Prop}{X σ κ}{σ' κ' h'}(G:bk X σ κ s)(x:be ex σ κ s.heap σ' κ' h')(w:∀L,ex L->u5 L∨s.heap.get? L=none):be u5 σ κ s.heap σ' κ' h' :=
 ⟨x.bb,λa o L e ne g=>x.frames a o L e (λq=>(w L q).elim ne λl=>by obtain ⟨o,q⟩:=G.lt L (λu=>by have:=G.fr a L e;rw [u.2] at this;exact bW this);rw [l] at q;cases q) g,x.qO⟩
structure cG(n:Nat)(A:cA):Prop where
 handled:A.handled=none
 depth:A.depth+5*n≤900
 units:A.units+20*n≤9000
theorem cG.mono{n n':Nat}(r:cG n A)(h:n'≤n):cG n' A:=⟨r.handled,by have:=r.depth;exact ag (lL (c8 5 h) _) this,by have:=r.units;exact ag (lL (c8 20 h) _) this⟩
theorem cG.lt{n:Nat}(r:cG n A):A.depth<recursionLimit:=by have:=r.depth;unfold recursionLimit;exact eB (ag (b6 ..) this) (nb rfl)
inductive Post{α β:Type}(X:Cx)(L:Addr)(ae:List Loc)(σ:aq)(κ:bI)(h:Heap)(R:(Addr->Prop)->Heap->β->α->Prop)(K:β->St->Prop)(y:α)(s':al):Prop
 | mk (b:β) (st':St) (κ':bI):Rel X L ae st' κ' s'->be (λz=>z =L) σ κ h st'.σ κ' s'.heap->R (aj st'.σ κ') s'.heap b y->K b st'->Post X L ae σ κ h R K y s'
theorem Post.trans{X L ae σ κ h σ' κ' h'}{R:(Addr->Prop)->Heap->β->α->Prop}{K:β->St->Prop}{y:α}(e:be (λz=>z =L) σ κ h σ' κ' h')(p:Post X L ae σ' κ' h' R K y s'):Post X L ae σ κ h R K y s' :=
 let ⟨b,st',yf,r,e',v,k⟩:=p;⟨b,st',yf,r,e.trans e',v,k⟩
def mO(X:Cx)(n:Nat)(L:Addr)(ae:List Loc)(t:Sem α)(R:(Addr->Prop)->Heap->β->α->Prop)(K:β->St->Prop)(st:St):Prop :=
 ∀A κ s,cG n A->Rel X L ae st κ s->ai X.M A t (Post X L ae st.σ κ s.heap R K) (λJ J=>False) s
abbrev bK(X:Cx)(n:Nat)(L:Addr)(ae:List Loc)(t:Sem Value)(K:ab->St->Prop)(st:St):Prop:=mO X n L ae t am K st
def P9(_:Addr->Prop)(_:Heap)(b:Bool)(y:Bool):Prop:=y=b
def hH(_:Addr->Prop)(_:Heap)(_:Unit)(_:Unit):Prop:=True
abbrev jN(X:Cx)(n:Nat)(L:Addr)(ae:List Loc)(t:Sem Bool)(K:Bool->St->Prop)(st:St):Prop:=mO X n L ae t P9 K st
abbrev tb(X:Cx)(n:Nat)(L:Addr)(ae:List Loc)(t:Sem (List Value))(K:List ab->St->Prop)(st:St):Prop:=mO X n L ae t aN K st
inductive cn where
 | next | brk | cont
 | ret (v:ab)
inductive u6(U:Addr->Prop)(h:Heap):cn->iH->Prop
 | next:u6 U h .next .next
 | brk:u6 U h .brk .brk
 | cont:u6 U h .cont .cont
 | ret {v:ab} {y:Value}:am U h v y->u6 U h (.ret v) (.ret y)
abbrev dC(X:Cx)(n:Nat)(L:Addr)(ae:List Loc)(t:Sem iH)(K:cn->St->Prop)(st:St):Prop:=mO X n L ae t u6 K st
theorem lO.keeps{h h':Heap}{l:Loc}(x:lO h l y)(k:∀o,h.get? l.addr=some o->h'.get? l.addr=some o):lO h' l y:=by
 cases l with
 | loc a n=>obtain ⟨m,⟨o,es,ep,e,r⟩,q⟩:=x;exact ⟨m,⟨o,es,ep,k _ e,r⟩,q⟩
 | cell c=>obtain ⟨o,e,r⟩:=x;exact ⟨o,k _ e,r⟩
theorem pj.keeps{L:Addr}{h h':Heap}{l:Loc}(x:pj L h l)(k:∀o,h.get? l.addr=some o->h'.get? l.addr=some o):pj L h' l:=by
 cases l with
 | loc a n=>exact x
 | cell c=>obtain ⟨q,v,o,e,r⟩:=x;exact ⟨q,v,o,k _ e,r⟩
theorem lO.some{h:Heap}{l:Loc}(x:lO h l y):∃o,h.get? l.addr=some o:=by
 cases l with
 | loc a n=>obtain ⟨m,⟨o,es,ep,e,r⟩,q⟩:=x;exact ⟨o,e⟩
 | cell c=>obtain ⟨o,e,r⟩:=x;exact ⟨o,e⟩
section
variable{X:Cx}{σ:aq}{κ:bI}{s s':al}
theorem gI{h h':Heap}(k:∀b o,h.get? b=some o->h'.get? b=some o):c7 U h U h':=λa o u e=>⟨u,k a o e⟩
theorem pi.bb{U h U' h' κ κ'}(S:c7 U h U' h')(x:pi U κ h a o)(hk:∀ob,h.get? a=some ob->h'.get? a=some ob)
  (hd:∀d ob,κ d= .dict a->h.get? d=some ob->κ' d= .dict a/\h'.get? d=some ob):pi U' κ' h' a o:=by
 cases o with
 | list vs=>obtain ⟨items,⟨ob,e,r⟩,q⟩:=x;exact ⟨items,⟨ob,hk _ e,r⟩,q.mono S⟩
 | dh b=>exact hk _ x
 | inst C fs=>obtain ⟨d,es,n,e1,e2,e3,q⟩:=x;exact ⟨d,es,n,hk _ e1,(hd d _ e3 e2).2,(hd d _ e3 e2).1,q.mono S⟩
theorem u4.bb{U h U' h'}(S:c7 U h U' h')(x:u4 X U h)(k:∀t∈X.tabs,∀o,h.get? t.2.1=some o->h'.get? t.2.1=some o):u4 X U' h':=λt ht=>by
 refine kQ (x t ht) λps e a b=>⟨ps,k t ht _ e,a,λpos cv q=> ?_⟩;refine kQ (b pos cv q) λco a0 u r=> ?_;subst a0
 have r':=r
 refine Ga (r') λJ J J J e0 e1 J=> ?_;cases e0;exact ⟨co,rfl,(S _ _ u e1).1,x5 S u r⟩
theorem bk.ext(G:bk X σ κ s)(k:∀b o,s.heap.get? b=some o->s'.heap.get? b=some o)(ho:s'.os=s.os)(hg:s'.gens=s.gens):bk X σ κ s' where
 keep:=λb o e=>k b o (G.keep b o e)
 os:=ho.trans G.os
 gens:=hg.trans G.gens
 tabs:=G.tabs.bb (gI k) λt J o e=>k _ o e
 base:=G.base
 lt:=λa h=>iE (G.lt a h) λo e=>⟨o,k _ _ e⟩
 fr:=G.fr
 excl:=G.excl
 own:=λa o h=>(G.own a o h).bb (gI k) (λob e=>k a ob e) λd ob q e=>⟨q,k d ob e⟩
 dict:=λd a h=>jL (G.dict d a h) λC fs q e=>⟨C,fs,q,k _ _ e⟩
 tab:=G.tab
theorem gc.ext{L ae m fz}{h h':Heap}(F:gc L ae m fz σ κ h)(k:∀b o,h.get? b=some o->h'.get? b=some o):gc L ae m fz σ κ h' where
 tag:=F.tag
 ns:=iE F.ns λml q=>⟨ml,q.keeps k⟩
 len:=F.len
 lt:=λi l e=>iE (F.lt i l e) λo q=>⟨o,k _ o q⟩
 vals:=λi v e=>eR (F.vals i v e) λl y a b c=>⟨l,y,a,b.keeps λo=>k _ o,c.mono (gI k)⟩
 rd:=F.rd
 wr:=λi l e q=>dP (F.wr i l e q) λa b=>⟨a,b.keeps λo=>k _ o⟩
 nodup:=F.nodup
theorem Rel.ext{L ae st}(R:Rel X L ae st κ s)(k:∀b o,s.heap.get? b=some o->s'.heap.get? b=some o)(ho:s'.os=s.os)(hg:s'.gens=s.gens):Rel X L ae st κ s' :=
 ⟨R.g.ext k ho hg,R.f.ext k⟩
theorem Rel.toks{L ae st}(R:Rel X L ae st κ s)(hh:s'.heap=s.heap)(ho:s'.os=s.os)(hg:s'.gens=s.gens):Rel X L ae st κ s':=R.ext (λb o e=>hh▸e) ho hg
theorem be.ext{ex:Addr->Prop}{h h':Heap}(k:∀b o,h.get? b=some o->h'.get? b=some o):be ex σ κ h σ κ h':=⟨gI k,λa o J e J g=>⟨e,k a o g⟩,λa o J e g=>⟨.inl e,o,k a o g⟩⟩
theorem Post.keep{L ae st}{R:(Addr->Prop)->Heap->β->α->Prop}{K:β->St->Prop}{y:α}{b:β}(r:Rel X L ae st κ s)(k:∀b o,s.heap.get? b=some o->s'.heap.get? b=some o)(ho:s'.os=s.os)(hg:s'.gens=s.gens)
  (v:R (aj st.σ κ) s'.heap b y) (q:K b st):Post X L ae st.σ κ s.heap R K y s':=⟨b,st,κ,r.ext k ho hg, .ext k,v,q⟩
theorem Post.same{L ae st}{R:(Addr->Prop)->Heap->β->α->Prop}{K:β->St->Prop}{y:α}{b:β}(r:Rel X L ae st κ s)(hh:s'.heap=s.heap)(ho:s'.os=s.os)(hg:s'.gens=s.gens)
  (v:R (aj st.σ κ) s.heap b y) (q:K b st):Post X L ae st.σ κ s.heap R K y s':=(.keep r (λb o e=>hh▸e) ho hg (hh▸v) q)
theorem gc.Bu{ex:Addr->Prop}{L ae m fz σ κ h σ' κ' h'}(F:gc L ae m fz σ κ h)(S:c7 (aj σ κ) h (aj σ' κ') h')(fr:∀a o L,κ a= .frame L->¬ ex L->h.get? a=some o->κ' a= .frame L/\h'.get? a=some o)(hL:¬ ex L)(hv:∀(i:Nat) l L',ae[i]? =some l->κ l.addr= .frame L'->¬ ex L'):gc L ae m fz σ' κ' h' :=
 have at_:∀(i:Nat) l,ae[i]? =some l->∀o,h.get? l.addr=some o->h'.get? l.addr=some o:=λi l hi o g =>
  if q:i∈fz then (F.rd i l hi q).elim (λu=>(S _ o u g).2) λ⟨L',_,t⟩=>(fr _ o L' t (hv i l L' hi t) g).2 else (fr _ o L (F.wr i l hi q).1 hL g).2
 let ⟨ml,oL,es,ep,gL,r⟩:=F.ns
 {tag:=(fr L oL L F.tag hL gL).1
  ns:=⟨ml,oL,es,ep,(fr L oL L F.tag hL gL).2,r⟩
  len:=F.len
  lt:=λi l hi=>(F.lt i l hi).imp λo q=>at_ i l hi o q
  vals:=λi v hv=>eR (F.vals i v hv) λl y a b c=>⟨l,y,a,b.keeps (at_ i l a),c.mono S⟩
  rd:=λi l hi q=>(F.lt i l hi).elim λo g=>(F.rd i l hi q).imp (λu=>(S _ o u g).1) λ⟨L',ne,t⟩=>⟨L',ne,(fr _ o L' t (hv i l L' hi t) g).1⟩
  wr:=λi l hi q=>(F.lt i l hi).elim λo g=>⟨(fr _ o L (F.wr i l hi q).1 hL g).1,(F.wr i l hi q).2.keeps (at_ i l hi)⟩
  nodup:=F.nodup}
theorem gc.Bw{ex:Addr->Prop}{L ae m fz σ κ h σ' κ' h'}(F:gc L ae m fz σ κ h)(e:be ex σ κ h σ' κ' h')(hL:¬ ex L)(hv:∀(i:Nat) l L',ae[i]? =some l->κ l.addr= .frame L'->¬ ex L'):gc L ae m fz σ' κ' h':=F.Bu e.bb e.frames hL hv
theorem gc.dp{L ae m fz σ' κ'}{h h':Heap}(F:gc L ae m fz σ κ h)(e:be (λJ=>False) σ κ h σ' κ' h'):gc L ae m fz σ' κ' h':=F.Bw e id λJ J J J J=>id
theorem nf{t u:Tag}(e:t=u)(h:d9 u.ix 2=false:=by rfl):∀L,t≠ .frame L:=λJ q=>bW (e.symm.trans q) h
theorem bk.u7{σ' κ'}(G:bk X σ κ s){ex:Addr->Prop}(hx:∀a,ex a->¬ aj σ κ a)(h1:∀a o,(∀L,κ a≠ .frame L)->¬ ex a->s.heap.get? a=some o->σ' a=σ a/\κ' a=κ a/\s'.heap.get? a=some o)
  (ht:c7 (aj σ κ) s.heap (aj σ' κ') s'.heap->u4 X (aj σ' κ') s'.heap) (h5:∀t∈X.tabs,κ' t.2.1= .tab)
  (h2:c7 (aj σ κ) s.heap (aj σ' κ') s'.heap->∀a o,σ' a=some o->(σ a=some o/\¬ ex a/\∀d,κ d= .dict a->¬ ex d)∨(κ' a= .none/\pi (aj σ' κ') κ' s'.heap a o))
  (P':∀d a,κ' d= .dict a->(κ d= .dict a/\¬ ex a)∨∃C fs,σ' a=some (.inst C fs)/\s'.heap.get? a=some (instObj C d))
  (h3:∀a,¬ aj σ' κ' a->∃o,s'.heap.get? a=some o) (h4:∀a L,κ' a= .frame L->κ' L= .frame L) (ho:s'.os=s.os) (hg:s'.gens=s.gens):c7 (aj σ κ) s.heap (aj σ' κ') s'.heap/\bk X σ' κ' s' :=
 have S:c7 (aj σ κ) s.heap (aj σ' κ') s'.heap:=λa o u e=>have z:=h1 a o (nf u.2) (λq=>hx a q u) e;⟨⟨z.1.trans u.1,z.2.1.trans u.2⟩,z.2.2⟩
 ⟨S,{
  keep:=λb o e=>(S b o (G.base b o e) (G.keep b o e)).2
  os:=ho.trans G.os
  gens:=hg.trans G.gens
  tabs:=ht S
  base:=λa o e=>(S a o (G.base a o e) (G.keep a o e)).1
  lt:=h3
  fr:=h4
  excl:=λa n=>by
   rcases q:σ' a with _ | o
   ·exact absurd q n
   ·exact (h2 S a o q).elim (λz=>have e:σ a≠none:=λy=>nn (y.symm.trans z.1);(G.lt a λu=>e u.1).elim λo g=>(h1 a o (nf (G.excl a e)) z.2.1 g).2.1.trans (G.excl a e)) λz=>z.1
  own:=λa o e=>(h2 S a o e).elim (λz=>(G.own a o z.1).bb S (λob g=>(h1 a ob (nf (G.excl a λy=>nn (y.symm.trans z.1))) z.2.1 g).2.2) λd ob q g=>have y:=h1 d ob (nf q) (z.2.2 d q) g;⟨y.2.1.trans q,y.2.2⟩) λz=>z.2
  dict:=λd a e=>(P' d a e).elim (λz=>jL (G.dict d a z.1) λC fs q g=>have y:=h1 a _ (nf (G.excl a λz=>nn (z.symm.trans q))) z.2 g;⟨C,fs,y.1.trans q,y.2.2⟩) id
  tab:=h5}⟩
theorem bk.step{κ'}(G:bk X σ κ s)(h1:∀a o,(∀L,κ a≠ .frame L)->s.heap.get? a=some o->κ' a=κ a/\s'.heap.get? a=some o)(h2:∀d a,κ' d= .dict a->κ d= .dict a)
  (h3:∀a,¬ aj σ κ' a->∃o,s'.heap.get? a=some o) (h4:∀a L,κ' a= .frame L->κ' L= .frame L) (ho:s'.os=s.os) (hg:s'.gens=s.gens):c7 (aj σ κ) s.heap (aj σ κ') s'.heap/\bk X σ κ' s' :=
 G.u7 (ex:=λJ=>False) (λJ=>GI) (λa o h J e=>⟨rfl,h1 a o h e⟩) (λS=>G.tabs.bb S λt ht o e=>(h1 _ o (nf (G.tab t ht)) e).2)
  (λt ht=>(G.lt _ λu=>bW (u.2.symm.trans (G.tab t ht))).elim λo g=>(h1 _ o (nf (G.tab t ht)) g).1.trans (G.tab t ht)) (λJ J J e=> .inl ⟨e,id,λJ J=>id⟩) (λd a e=> .inl ⟨h2 d a e,id⟩) h3 h4 ho hg
theorem Post.op{L ae}{R:(Addr->Prop)->Heap->β->α->Prop}{K:β->St->Prop}{y:α}{b:β}{σ' κ'}(r:Rel X L ae st κ s)(G:bk X σ' κ' s')(e:be (λJ=>False) st.σ κ s.heap σ' κ' s'.heap)
  (v:R (aj σ' κ') s'.heap b y) (q:K b {st with σ:=σ'}):Post X L ae st.σ κ s.heap R K y s':=⟨b,{st with σ:=σ'},κ',⟨G,r.f.dp e⟩,e.weaken λJ x=>x.elim,v,q⟩
end
set_option genSizeOf false
set_option genSizeOfSpec false
set_option genInjectivity false
mutual
inductive IE where
 | v (i:Nat)
 | ah (v:ab)
 | bin (op:o8) (a b:IE)
 | neg (a:IE)
 | not (a:IE)
 | bool (bT:Bool) (es:List IE)
 | ite (t:IB) (a b:IE)
 | cmp (op:fm) (a b:IE)
 | kc (fN eL:fm) (a b c:IE)
 | call (f:IE) (args:List IE) (dD:List (Str×IE))
 | aI (o:IE) (name:Str) (args:List IE)
 | a (o:IE) (name:Str)
 | sub (o i:IE)
 | slice (o:IE) (lo hi:Option IE)
 | tuple (es:List IE)
 | list (es:List IE)
 | comp (cF:IE) (gd:List Nat) (aO:Bool) (it:II) (cond:Option IB) (k:Nat)
 | lam (i:Nat)
inductive II where
 | val (e:IE)
 | range (args:List IE)
 | enum (e:IE)
 | zip (es:List IE)
inductive IB where
 | val (e:IE)
 | not (a:IB)
 | bool (bT:Bool) (es:List IB)
 | cmp (op:fm) (a b:IE)
 | kc (fN eL:fm) (a b c:IE)
end
inductive IT where
 | v (i:Nat)
 | a (o:IE) (name:Str)
 | sub (o i:IE)
 | slice (o:IE) (lo hi:Option IE)
inductive IS where
 | expr (e:IE)
 | s (t:IT) (e:IE)
 | dY (ts:List IT) (e:IE)
 | aug (o i:IE) (op:o8) (e:IE)
 | loop (gd:List Nat) (aO:Bool) (it:II) (body:List IS)
 | jh (t:IB) (body:List IS)
 | ifs (t:IB) (a b:List IS)
 | ret (e:Option IE)
 | fail
 | pass
structure CT where
 names:List (Str×ce)
 idx:List (Str×Nat)
 G:List (Str×ab)
 n:Nat
 lam:Bool
noncomputable def gJ(x:Str):Bool:=x==("__debug__" :Str) || x==("__classdict__" :Str)
noncomputable def xA{α:Sort _}(d:α)(r:Value->α)(i:Int->α)(b:List UInt8->α)(l:List ab->α)(t:List ab->α)(v:ab):α:=v.casesOn r i b l t (λJ J=>d) (λJ J=>d) λJ=>d
noncomputable def xV{α:Sort _}(d n:α)(b:Bool->α)(i:Int->α)(r:Addr->α)(v:Value):α:=v.casesOn n d d b (λa J=>i a) (λJ J=>d) (λJ J=>d) (λJ J=>d) (λJ=>d) (λJ=>d) r
noncomputable def isVar(o:Option ce):Bool:=o.casesOn false λk=>k.casesOn true true true false false
noncomputable def jO(c:CT)(x:Str):Option Nat:=if (!gJ x&&isVar (c.names.lookup x))=true then c.idx.lookup x else none
noncomputable def ji(c:CT)(x:Str):Option IE:=if gJ x=true then none else if isVar (c.names.lookup x)=true then (c.idx.lookup x).map .v else if (c.names.lookup x==some .globalImplicit)=true then (c.G.lookup x).map .ah else none
noncomputable def cC(k:Const):Option ab:=k.casesOn (some .none) (λb=>some (.bool b)) (λi=>some (.int i)) (λJ=>none) (λJ J=>none) (λJ=>none) (λb=>some (.bytes b)) none
noncomputable def baseOk(e:Expr):Bool:= !Nat.beq e.ctorIdx 16
noncomputable def qP(e:Expr):Bool:=d9 e.ctorIdx 8
noncomputable def nameP(e:Expr):Option (Str×Pos):=Bx (λJ=>Option (Str×Pos)) e (λx p=>some (x,p)) λJ=>none
noncomputable def nameOf(e:Expr):Option Str:=(nameP e).map (λz=>z.1)
noncomputable def xE(d:α)(bo:BoolOp->List Expr->α)(bi:Expr->o8->Expr->α)(un:UnaryOp->Expr->α)(la:sW->Expr->nI->α)(te:Expr->Expr->Expr->α)(lc:Expr->List uZ->nI->α)
  (cm:Expr->List fm->List Expr->Pos->α) (ca:Expr->List Expr->List uR->Pos->α) (co:Const->α) (at_:Expr->Str->α) (su:Expr->Expr->α) (na:Str->α) (li:List Expr->α) (tu:List Expr->α) (e:Expr):α :=
 e.casesOn (motive_1:=λJ=>α) (λa b J=>bo a b) (λJ J J=>d) (λa b c J=>bi a b c) (λa b J=>un a b) (λa b c J=>la a b c) (λa b c J=>te a b c) (λJ J J=>d) (λJ J J=>d) (λa b c J=>lc a b c) (λJ J J J=>d) (λJ J J J J=>d) (λJ J J J=>d)
  (λJ J=>d) (λJ J=>d) (λJ J=>d) cm ca (λJ J J J=>d) (λJ J=>d) (λa J J=>co a) (λa b J=>at_ a b) (λa b J=>su a b) (λJ J=>d) (λa J=>na a) (λa J=>li a) (λa J J=>tu a) λJ J J J=>d
noncomputable def xL(d:β)(f:α->List α->β)(l:List α):β:=l.casesOn d f
noncomputable def xU(d:α)(f g:α)(o:UnaryOp):α:=o.casesOn d f d g
noncomputable def GJ:Expr->Option (Expr×List fm×List Expr×Pos) :=
 xE none (λJ J=>none) (λJ J J=>none) (λJ J=>none) (λJ J J=>none) (λJ J J=>none) (λJ J J=>none) (λa b c d=>some (a,b,c,d)) (λJ J J J=>none) (λJ=>none) (λJ J=>none) (λJ J=>none) (λJ=>none) (λJ=>none) λJ=>none
noncomputable def xC(d:α)(f:fm->Expr->α)(g:fm->fm->Expr->Expr->α)(os:List fm)(rs:List Expr):α :=
 xL d (λo os=>xL (xL d (λr rs=>xL (f o r) (λJ J=>d) rs) rs) (λo2 os=>xL (xL d (λr rs=>xL d (λr2 rs=>xL (g o o2 r r2) (λJ J=>d) rs) rs) rs) (λJ J=>d) os) os) os
noncomputable def GK(e:Expr):List Expr:=Qa (λJ=>List Expr) e (λes J J=>es) λJ=> []
noncomputable def dq:List (Str×ce)->Nat->List (Str×Nat)
 | [],_=> []
 | (x,k)::r,n=>if k== .local || k== .cell then (x,n)::dq r (n+1) else dq r n
noncomputable def hO(idx:List (Str×Nat)):List (Str×ce)->Option (List (Str×Nat))
 | []=>some []
 | (x,k)::r=>if k== .free then (match idx.lookup x,hO idx r with
   | some i,some l=>some ((x,i)::l)
   | _,_=>none) else hO idx r
noncomputable def cN(c:CT)(e:Expr):Option Nat:=(nameOf e).bind (jO c)
noncomputable def kU(c:CT)(e:Expr):Option (List Nat×Bool):=if d9 e.ctorIdx 25 then ((GK e).mapM (cN c)).map λl=>(l,true) else (cN c e).map λi=>([i],false)
noncomputable def jP:List (Str×ce)->Bool
 | []=>true
 | (x,_)::r=> !(r.any λp=>p.1==x)&&jP r
noncomputable def freeOk(outer:List (Str×ce)):List (Str×ce)->Bool
 | []=>true
 | (x,k)::r=>(if k== .free then !gJ x&&(outer.lookup x==some .cell || outer.lookup x==some .free) else true)&&freeOk outer r
noncomputable def qQ(outer:List (Str×ce))(scope:nI):Bool:=(scope.kind== .function)&&jP scope.names&&freeOk outer scope.names
noncomputable def tc(e:Expr):Bool:=d9 e.ctorIdx 25&&(GK e).all (constantsAlone 8)
noncomputable def yg(p q:Str)(scope:nI):Bool:=scope.kind== .function&& !scope.isGenerator&& !scope.isCoroutine&&scope.names== [(p, .local),(q, .free)]
noncomputable def u8(l:List α):Option α:=xL none (λa r=>xL (some a) (λJ J=>none) r) l
noncomputable def Bz(c:CT)(args:sW)(body:Expr)(scope:nI):Option IE :=
 if (args.posonlyargs.isEmpty&&args.vararg.isNone&&args.kwonlyargs.isEmpty&&args.kw_defaults.isEmpty&&args.kwarg.isNone&&args.defaults.isEmpty)=true then
  (u8 args.args).bind λa=>(GJ body).bind λb=>(nameP b.1).bind λp'=>(u8 b.2.1).bind λo=>(u8 b.2.2.1).bind λr=>(nameP r).bind λq =>
   if (a.annotation.isNone&&o== .Eq&&c.lam&&a.arg==p'.1&& !(a.arg==q.1)&&yg a.arg q.1 scope&& !gJ a.arg&& !gJ q.1&&(c.names.lookup q.1==some .cell))=true then (c.idx.lookup q.1).map .lam else none
 else none
noncomputable def Qb(v:ab):String:=xA "" (λv=>v.casesOn "" "" "" (λJ=> "") (λJ J=> "") (λJ J=> "") (λJ J=> "") (λJ J=> "") (λT=>T) (λJ=> "") λJ=> "") (λJ=> "") (λJ=> "") (λJ=> "") (λJ=> "") v
noncomputable def qR(o:Option IE):String:=o.casesOn "" λi=>i.casesOn (motive_1:=λJ=>String) (λJ=> "") Qb (λJ J J=> "") (λJ=> "") (λJ=> "") (λJ J=> "") (λJ J J=> "") (λJ J J=> "") (λJ J J J J=> "") (λJ J J=> "") (λJ J J=> "") (λJ J=> "") (λJ J=> "") (λJ J J=> "") (λJ=> "") (λJ=> "") (λJ J J J J J=> "") λJ=> ""
noncomputable def yh(T:String)(as:Option (List IE))(v:Option IE):Option II :=
 if T== "range" then as.map .range else if T== "enumerate" then as.bind λas=>(u8 as).map .enum else if T== "zip" then as.map .zip else v.map .val
noncomputable def u9(f:Expr->Option IE):uR->Option (Str×IE)
 | ⟨some x,v,_⟩=>(f v).map λi=>(x,i)
 | _=>none
noncomputable def nO:II->Bool->Bool
 | .enum _,b=>b
 | .zip _,b=>b
 | _,_=>true
noncomputable def GL(f:Expr->Option IB)(ifs:List Expr):Option (Option IB):=match ifs with
 | []=>some none
 | e::r=>if r.isEmpty=true then (f e).map some else none
noncomputable def BA(f:Expr->Option IE)(e:Option Expr):Option (Option IE):=match e with
 | none=>some none
 | some e=>(f e).map some
mutual
noncomputable def cB:Nat->CT->Expr->Option IB
 | 0,_,_=>none
 | n+1,c,e =>
  let o:=(cE n c e).map .val
  xE o (λop es=>do return .bool (op== .And) (<-es.mapM (cB n c))) (λJ J J=>o) (λop a=>xU o (do return .not (<-cB n c a)) o op) (λJ J J=>o) (λJ J J=>none) (λJ J J=>o)
   (λa os rs J=>xC o (λop b=>do return .cmp op (<-cE n c a) (<-cE n c b)) (λfN eL b1 b2=>do return .kc fN eL (<-cE n c a) (<-cE n c b1) (<-cE n c b2)) os rs)
   (λJ J J J=>o) (λJ=>o) (λJ J=>o) (λJ J=>o) (λJ=>o) (λJ=>o) (λJ=>o) e
noncomputable def cE:Nat->CT->Expr->Option IE
 | 0,_,_=>none
 | n+1,c,e =>
  let iter:Expr->Option II:=λe=>GM (λJ=>Option II) e (λf args ks J=>Bx (λJ=>Option II) f (λx J=>if ks.isEmpty then yh (qR (ji c x)) (args.mapM (cE n c)) (cE n c e) else (cE n c e).map .val) λJ=>(cE n c e).map .val) λe=>(cE n c e).map .val
  xE none (λop es=>do return .bool (op== .And) (<-es.mapM (cE n c))) (λa op b=>do return .bin op (<-cE n c a) (<-cE n c b)) (λop a=>xU none (do return .not (<-cE n c a)) (do return .neg (<-cE n c a)) op)
   (Bz c) (λt a b=>do return .ite (<-cB n c t) (<-cE n c a) (<-cE n c b))
   (λcF gens scope=>xL none (λg r=>xL (g.is_async.casesOn (motive:=λJ=>Option IE) (λm=>m.casesOn (motive:=λJ=>Option IE) (do
    let gw<-iter g.iter
    let ni:=dq scope.names c.n
    let oi<-hO c.idx scope.names
    let c':CT:={names:=scope.names,idx:=ni++oi,G:=c.G,n:=c.n+ni.length,lam:=false}
    let cond<-GL (cB n c') g.ifs
    let (tg,aO)<-kU c' g.target
    if nO gw aO&&qQ c.names scope then return .comp (<-cE n c' cF) tg aO gw cond ni.length else none) λJ=>none) λJ=>none) (λJ J=>none) r) gens)
   (λa os rs J=>xC none (λop b=>do return .cmp op (<-cE n c a) (<-cE n c b)) (λfN eL b1 b2=>do return .kc fN eL (<-cE n c a) (<-cE n c b1) (<-cE n c b2)) os rs)
   (λf args dD pos=>ag9 (λJ=>Option IE) f (λx J=>if args.length+2*dD.length≤20 then do
    return .call (<-ji c x) (<-args.mapM (cE n c)) (<-dD.mapM (u9 (cE n c))) else none)
    (λo name qS=>if dD.isEmpty then if qS.endLine==pos.line&&args.length≤20&&baseOk o then do return .aI (<-cE n c o) name (<-args.mapM (cE n c)) else none else none) λJ=>none)
   (λk=>(cC k).map .ah) (λo name=>if baseOk o then do return .a (<-cE n c o) name else none)
   (λo i=>Qc (λJ=>Option IE) i (λlo hi J=>(BA (cE n c) lo).bind λl=>(BA (cE n c) hi).bind λh=>(cE n c o).map λi=> .slice i l h) λi=>do return .sub (<-cE n c o) (<-cE n c i))
   (ji c) (λes=>do return .list (<-es.mapM (cE n c))) (λes=>do return .tuple (<-es.mapM (cE n c))) e
end
noncomputable def cI(n:Nat)(c:CT)(e:Expr):Option II:=GM (λJ=>Option II) e (λf args ks J=>Bx (λJ=>Option II) f (λx J=>if ks.isEmpty then yh (qR (ji c x)) (args.mapM (cE n c)) (cE n c e) else (cE n c e).map .val) λJ=>(cE n c e).map .val) λe=>(cE n c e).map .val
noncomputable def nP(n:Nat)(c:CT)(e:Option Expr):Option (Option IE):=BA (cE n c) e
noncomputable def cT(n:Nat)(c:CT)(e:Expr):Option IT:=Qd (λJ=>Option IT) e (λx J=>(jO c x).map .v) (λo name J=>do return .a (<-cE n c o) name)
 (λo i J=>Qc (λJ=>Option IT) i (λlo hi J=>(nP n c lo).bind λl=>(nP n c hi).bind λh=>(cE n c o).map λi=> .slice i l h) λi=>do return .sub (<-cE n c o) (<-cE n c i)) λJ=>none
noncomputable def cS:Nat->CT->fM->Option IS
 | 0,_,_=>none
 | n+1,c,st=>st.casesOn (motive_2:=λJ=>Option IS) (λJ J J J J J J J J J=>none) (λJ J J J J J J J J J=>none) (λJ J J J J J J J J J J=>none)
  (λo J=>match o with
   | none=>some (.ret none)
   | some e=>(cE (n+1) c e).map λi=> .ret (some i)) (λJ J=>none)
  (λts v J=>xL none (λt r=>xL (Qa (λJ=>Option IS) t (λts J J=>if qP v || tc v then none else do return .dY (<-ts.mapM (cT (n+1) c)) (<-cE (n+1) c v)) λt=>do return .s (<-cT (n+1) c t) (<-cE (n+1) c v)) (λJ J=>none) r) ts) (λJ J J J J J J=>none)
  (λt op v J=>Qd (λJ=>Option IS) t (λJ J=>none) (λJ J J=>none) (λo i J=>do return .aug (<-cE (n+1) c o) (<-cE (n+1) c i) op (<-cE (n+1) c v)) λJ=>none) (λJ J J J J=>none)
  (λt it body r J=>xL (do
    let (tg,aO)<-kU c t
    let gw<-cI (n+1) c it
    if nO gw aO then return .loop tg aO gw (<-body.mapM (cS n c)) else none) (λJ J=>none) r) (λJ J J J J=>none)
  (λt body r J=>xL (do return .jh (<-cB (n+1) c t) (<-body.mapM (cS n c))) (λJ J=>none) r)
  (λt a b J=>do return .ifs (<-cB (n+1) c t) (<-a.mapM (cS n c)) (<-b.mapM (cS n c)))
  (λJ J J=>none) (λJ J J=>none) (λJ J J=>none) (λJ J J=>some .fail) (λJ J J J J=>none) (λJ J J J J=>none) (λJ J J=>none) (λJ J=>none) (λJ J J J=>none) (λJ J=>none) (λJ J=>none)
  (λe J=>GM (λJ=>Option IS) e (λf as ks p=>(cE (n+1) c (.Call f as ks p)).map .expr) λJ=>none) (λJ=>some .pass) (λJ=>none) λJ=>none
structure Fn where
 params:Nat
 ae:Nat
 body:List IS
noncomputable def Qe(ns:List (Str×ce)):Bool:=ns.all λp=> !(p.2== .free)
noncomputable def BB(fd:FuncData):Bool:=(fd.scope.kind== .function)&&jP fd.scope.names&&Qe fd.scope.names&& !fd.scope.isGenerator&& !fd.scope.isCoroutine&&fd.params.args.all (λa=> !gJ a.arg) &&
 fd.params.posonlyargs.isEmpty&&fd.params.vararg.isNone&&fd.params.kwonlyargs.isEmpty&&fd.params.kwarg.isNone&&fd.closure.isEmpty&&fd.globals==mainGlobals&&fd.builtins==builtinsNs
noncomputable def td(lam:Bool)(G:List (Str×ab))(fd:FuncData):CT:={names:=fd.scope.names,idx:=dq fd.scope.names 0,G:=G,n:=(dq fd.scope.names 0).length,lam:=lam}
noncomputable def va(n:Nat)(lam:Bool)(G:List (Str×ab))(fd:FuncData):Option Fn:=match fd.body with
 | .stmts body =>
  if BB fd&&(fd.params.args.map λx=>(dq fd.scope.names 0).lookup x.arg)==(aK fd.params.args.length).map some then
   (body.mapM (cS n (td lam G fd))).map λb=>⟨fd.params.args.length,(dq fd.scope.names 0).length,b⟩
  else none
 | _=>none
section
variable {B:Prop}{C:ab->Prop}
noncomputable def aq.set(σ:aq)(a:Addr)(o:d8):aq:=λb=>if b=a then some o else σ b
noncomputable def St.put(st:St)(σ:aq):St:={st with σ:=σ}
noncomputable def St.jj(st:St)(i:Nat)(v:ab):St:={st with m:=st.m.set i (some v)}
noncomputable def St.GN(st:St)(k:Nat):St:={m:=st.m++cf k none,fz:=aK st.m.length,σ:=st.σ}
def dQ(n:Nat):Prop:=n≤1000000
noncomputable def BC:List (Addr×List Str):= [
 (77,["child","row","many","first"]),
 (338,["children","parity","guid","shape"]),
 (436,["sector","octets","waiting","is_out","reads","writes"]),
 (458,["sector","slab","record","fan","dnodes","ring","defer","most_record","uber","config","zap"]),
 (641,["rows"]),
 (739,["disk","guid","shape","missing"])]
noncomputable def mP(C:Addr)(x:Str):Bool:=((BC.lookup C).getD []).contains x
noncomputable def GO:List (Addr×List (Str×Addr)):= [
 (338,[("sectors",255),("asize",262),("columns",269),("whole",276),("write",283),("held",288),("read",295),("check",302),("searched",307),("wrong_of",314),("mend",321),("flush",328),("leaves",335)]),
 (436,[("sectors",363),("want",370),("read",377),("write",384),("put",391),("flush",398),("pending",405)]),
 (641,[("behind",527),("want",534),("has",541),("some",548),("add",596),("put",610)]),
 (739,[("is_there",673),("sectors",680),("place_of",687),("read",694),("write",701),("flush",708),("note_missing",715),("has",729)])]
noncomputable def po(C:Addr)(x:Str):Option Addr:=(GO.lookup C).bind (λz=>z.lookup x)
noncomputable def BD:List (Addr×Addr):= [(77,67),(338,250),(436,356),(458,455),(641,520),(739,666)]
def bB(o:Option α)(k:α->Prop):Prop:=match o with | some v=>k v | none=>False
theorem bB.i{o:Option α}{k:α->Prop}{v:α}(e:o=some v)(h:k v):bB o k:=e▸h
theorem bB.of{C:Option α->Prop}{o:Option α}{k:α->Prop}(h:bB o k)(f:∀v,k v->C (some v)):C o:=by
 cases o with
 | none=>exact h.elim
 | some v=>exact f v h
theorem bB.ex{o:Option α}{k:α->Prop}(h:bB o k):∃v,o=some v/\k v:=bB.of (C:=λo=>∃v,o=some v/\k v) h λv h=>⟨v,rfl,h⟩
theorem bB.mono{o:Option α}{k k':α->Prop}(h:bB o k)(f:∀v,k v->k' v):bB o k':=bB.of (C:=λo=>bB o k') h f
noncomputable def mQ(b:Bool)(x:Option α):Option α:=match b with | true=>x | false=>none
theorem mQ.inv{b:Bool}{x:Option α}{v:α}(h:mQ b x=some v):b=true/\x=some v:=by
 cases b
 ·exact nn h
 ·exact ⟨rfl,h⟩
theorem mQ.i{b:Bool}{x:Option α}{v:α}(e:b=true)(h:x=some v):mQ b x=some v:=aa e h
def cX(b:Bool)(p:Prop):Prop:=match b with | true=>p | false=>False
theorem cX.of{C:Prop}{b:Bool}{p:Prop}(h:cX b p)(f:b=true->p->C):C:=by
 cases b with
 | true=>exact f rfl h
 | false=>exact h.elim
theorem cX.i{b:Bool}{p:Prop}(e:b=true)(h:p):cX b p:=e▸h
def bf(c:Bool)(A B:Prop):Prop:=match c with | true=>A | false=>B
theorem bf.mono{c:Bool}{A A' B':Prop}(h:bf c A B)(f:A->A')(g:B->B'):bf c A' B':=by
 cases c
 ·exact g h
 ·exact f h
theorem bf.t{A:Prop}{c:Bool}(e:c=true)(h:A):bf c A B:=e▸h
theorem bf.f{A:Prop}{c:Bool}(e:c=false)(h:B):bf c A B:=e▸h
theorem bf.d{p:Prop} [Decidable p]{A:Prop}(h:p->A)(h':¬ p->B):bf (decide p) A B:=if q:p then .t (decide_eq_true q) (h q) else .f (decide_eq_false q) (h' q)
def ke(bT b:Bool)(A B:Prop):Prop:=match bT with | true=>bf b A B | false=>bf b B A
theorem ke.mono{bT b:Bool}{A A' B':Prop}(h:ke bT b A B)(f:A->A')(g:B->B'):ke bT b A' B':=by
 cases bT
 ·exact bf.mono h g f
 ·exact bf.mono h f g
theorem ke.of{bT b:Bool}{k:Bool->Prop}(h:k b):ke bT b (k bT) (k (!bT)):=by cases bT<;>cases b<;>exact h
noncomputable def nQ:List Bool->List (Option ab)->List (Option ab)
 | b::bs,v::vs=>(match b with | true=>none | false=>v)::nQ bs vs
 | _,vs=>vs
noncomputable def gx(bs:List Bool)(st:St):St:={m:=nQ bs st.m,fz:=st.fz,σ:=st.σ}
inductive Wk(K:St->Prop)(st:St):Prop
 | mk (bs:List Bool):K (gx bs st)->Wk K st
noncomputable def vc(i:Nat):List Nat->Bool
 | []=>false
 | j::r=>match d9 i j with | true=>true | false=>vc i r
noncomputable def vd:Nat->List α->Bool
 | _,[]=>false
 | 0,_::_=>true
 | i+1,_::r=>vd i r
noncomputable def short:List α->Nat->Bool
 | [],_=>true
 | _::_,0=>false
 | _::r,n+1=>short r n
theorem Qf:∀{n:Nat},short l n=true->l.length≤n:=by
 induction l with
 | nil=>exact λJ=>da _
 | cons _ l ih =>
  intro n h;cases n with
  | zero=>exact ff h
  | succ n=>exact fO (ih h)
noncomputable def ve:List α->List β->Bool
 | [],r=>r.isEmpty
 | _::a,r=>match r with | _::b=>ve a b | []=>false
theorem GP{a:List α}:∀{b:List β},ve a b=true->a.length=b.length:=by
 induction a with
 | nil=>intro b h;cases b;rfl;exact ff h
 | cons x a ih=>intro b h;cases b;exact ff h;exact congrArg (λz=>z +1) (ih h)
noncomputable def mR(o:Option d8):Option (List ab):=match o with
 | some (.list vs)=>some vs
 | _=>none
theorem GQ{o:Option d8}{vs}(h:mR o=some vs):o=some (.list vs):=by
 cases o with
 | none=>exact nn h
 | some o=>cases o<;>first | exact nn h | exact congrArg _ (congrArg _ (aM h))
noncomputable def tf(v:Value):Option Addr:=xV none none (λJ=>none) (λJ=>none) some v
noncomputable def eV(σ:aq)(v:ab):Option (List ab):=xA none (λv=>(tf v).bind λa=>mR (σ a)) (λJ=>none) (λJ=>none) some some v
theorem BE{v:Value}{a}(h:tf v=some a):v= .ref a:=by cases v<;>first | exact nn h | exact congrArg _ (aM h)
theorem eV.of(h:eV σ v=some vs)(l:C (.list vs))(t:C (.tuple vs))(r:∀a,σ a=some (.list vs)->C (.ref a)):C v:=by
 cases v with
 | list=>exact aM h▸l
 | tuple=>exact aM h▸t
 | raw v =>
  obtain ⟨a,h1,h2⟩:=cQ.mp h;exact BE h1▸r a (GQ h2)
 | _=>exact nn h
noncomputable def dZ(b:List UInt8):List ab:=b.map λx=> .int x.toNat
noncomputable def th(σ:aq)(v:ab):Option (List ab):=xA none (λv=>(tf v).bind λa=>mR (σ a)) (λJ=>none) (λb=>some (dZ b)) some some v
theorem th.of(h:th σ v=some vs)(b:∀b,dZ b=vs->C (.bytes b))(l:C (.list vs))(t:C (.tuple vs))(r:∀a,σ a=some (.list vs)->C (.ref a)):C v:=by
 rcases v with ⟨⟩<;>first | exact eV.of (C:=C) h l t r | exact b _ (aM h)
noncomputable def ownOf(σ:aq)(v:ab):List (Addr×List ab):=xA [] (λv=>((tf v).bind λa=>(mR (σ a)).map λvs=>(a,vs)).toList) (λJ=> []) (λJ=> []) (λJ=> []) (λJ=> []) v
theorem yi{vs}(h:σ a=some (.list vs)):ownOf σ (.ref a)= [(a,vs)]:=by
 refine (?_:((mR (σ a)).map λvs=>(a,vs)).toList=_);exact aa h rfl
noncomputable def dR(x:Str):List (Str×ab)->Option ab
 | []=>none
 | (y,v)::r=>if x=y then some v else dR x r
theorem Qg{y:Str}{r:List (Str×ab)}:dR x ((y,v)::r)=if x=y then some v else dR x r:=rfl
noncomputable def nR(x:Str)(v:ab):List (Str×ab)->List (Str×ab)
 | []=> [(x,v)]
 | (y,w)::r=>if x=y then (y,v)::r else (y,w)::nR x v r
theorem GR{y:Str}{w:ab}{r:List (Str×ab)}:nR x v ((y,w)::r)=if x=y then (y,v)::r else (y,w)::nR x v r:=rfl
noncomputable def qT(k:Int):List Int->List ab->Option ab
 | k'::ks,v::vs=>if k=k' then some v else qT k ks vs
 | _,_=>none
noncomputable def lP(σ:aq)(v:ab)(x:Str):Option ab:=match v with
 | .inst _ fs=>dR x fs
 | .ref a=>(match σ a with
  | some (.inst _ fs)=>dR x fs
  | _=>none)
 | _=>none
noncomputable def pp(σ:aq):ab->Option Addr
 | .inst C _=>some C
 | .ref a=>(match σ a with
  | some (.inst C _)=>some C
  | _=>none)
 | _=>none
noncomputable def handOk(v:ab):Bool:=xA true (λv=>xV false true (λJ=>true) (λJ=>false) (λJ=>true) v) (λJ=>true) (λJ=>true) (λJ=>true) (λJ=>true) v
noncomputable def attrOk(σ:aq)(ov:ab)(x:Str)(v:ab):Bool:=(pp σ ov).any (λz=>mP z x)&&handOk v
noncomputable def vg(v:ab):Bool:=xA false (λv=>xV false true (λJ=>false) (λJ=>false) (λJ=>false) v) (λJ=>false) (λJ=>false) (λJ=>false) (λJ=>false) v
noncomputable def gf(v w:ab):Option Bool :=
 xA none (λx=>xA none (λy=>xV none (if vg (.raw y) then some true else none) (λa=>xV none none (λb=>some (a==b)) (λJ=>none) (λJ=>none) y) (λJ=>none) (λJ=>none) x) (λJ=>none) (λJ=>none) (λJ=>none) (λJ=>none) w)
  (λi=>xA none (λJ=>none) (λj=>some (decide (i=j))) (λJ=>none) (λJ=>none) (λJ=>none) w)
  (λa=>xA none (λx=>if vg (.raw x) then some false else none) (λJ=>none) (λb=>some (decide (a=b))) (λJ=>none) (λJ=>none) w) (λJ=>none) (λJ=>none) v
noncomputable def jk(f:ab->ab->Option Bool):List ab->List ab->Option Bool
 | v::vs,ws=>(match ws with | w::ws=>(f v w).bind λa=>(jk f vs ws).map λb=>a&&b | []=>some true)
 | [],_=>some true
inductive kV:ab->ab->Bool->Prop
 | none:kV .none .none true
 | bool (a b:Bool):kV (.bool a) (.bool b) (a==b)
 | bn (b:List UInt8):kV (.bytes b) .none false
 | int (i j:Int):kV (.int i) (.int j) (decide (i=j))
 | bytes (a b:List UInt8):kV (.bytes a) (.bytes b) (decide (a=b))
theorem BF{w:ab}(h:vg w=true):w= .none:=by
 rcases w with ⟨⟩<;>first | exact ff h | skip
 rcases v with ⟨⟩<;>first | exact ff h | rfl
theorem GS{b:Bool}{x r:α}(h:(if b=true then some x else none)=some r):b=true/\x=r:=by
 rcases b with _ | _
 ·exact nn h
 ·exact ⟨rfl,aM h⟩
theorem yj{w:ab}{b:Bool}(h:gf v w=some b):kV v w b:=by
 rcases v with x | i | b | _ | _ | _ | _ | _<;>first | exact nn h | skip
 ·rcases w with y | _ | _ | _ | _ | _ | _ | _<;>first | exact nn h | skip
  rcases x with ⟨⟩<;>first | exact nn h | skip
  ·obtain ⟨q,rfl⟩:=GS h;exact aa (BF q) .none
  ·rcases y with ⟨⟩<;>first | exact nn h | exact aM h▸ .bool _ _
 ·rcases w with ⟨⟩<;>first | exact nn h | exact aM h▸ .int _ _
 ·rcases w with ⟨⟩<;>first | exact nn h | exact aM h▸ .bytes _ _ | skip
  obtain ⟨q,rfl⟩:=GS h;exact aa (BF q) (.bn _)
noncomputable def kf:Nat->ab->ab->Option Bool
 | 0,v,w=>gf v w
 | k+1,v,w=>xA (gf v w) (λJ=>gf v w) (λJ=>gf v w) (λJ=>gf v w) (λvs=>xA none (λJ=>none) (λJ=>none) (λJ=>none) (λws=>if vs.length=ws.length then jk (kf k) vs ws else some false) (λJ=>none) w)
  (λvs=>xA none (λJ=>none) (λJ=>none) (λJ=>none) (λJ=>none) (λws=>if vs.length=ws.length then jk (kf k) vs ws else none) w) v
class inductive kg:Nat->ab->ab->Bool->Prop
 | base {k:Nat} {v w:ab} {b:Bool}:kV v w b->kg k v w b
 | list {k:Nat} {vs ws:List ab} (e:Nat->Bool):vs.length=ws.length->(∀(j:Nat) v w,vs[j]? =some v->ws[j]? =some w->kg k v w (e j))->kg (k+1) (.list vs) (.list ws) ((aK vs.length).all e)
 | BG {k:Nat} {vs ws:List ab}:vs.length≠ws.length->kg (k+1) (.list vs) (.list ws) false
 | tuple {k:Nat} {vs ws:List ab} (e:Nat->Bool):vs.length=ws.length->(∀(j:Nat) v w,vs[j]? =some v->ws[j]? =some w->kg k v w (e j))->kg (k+1) (.tuple vs) (.tuple ws) ((aK vs.length).all e)
theorem GT{f:ab->ab->Option Bool}:∀{ws:List ab} {b:Bool},jk f vs ws=some b->vs.length=ws.length->∃e:Nat->Bool,(∀(j:Nat) v w,vs[j]? =some v->ws[j]? =some w->f v w=some (e j))/\b=(aK vs.length).all e:=by
 induction vs with
 | nil=>exact λh J=>⟨λJ=>true,λJ J J=>nn,(aM h).symm⟩
 | cons v vs ih =>
  intro ws b h hl;rcases ws with _ | ⟨w,ws⟩
  ·cases hl
  ·obtain ⟨a,ha,h⟩:=cQ.mp h;obtain ⟨c,hc,rfl⟩:=lQ.mp h;obtain ⟨e,he,rfl⟩:=ih hc (qU hl);refine ⟨λj=>j.casesOn a e,λj v' w' h1 h2=> ?_, ?_⟩
   ·rcases j with _ | j
    ·cases aM h1;cases aM h2;exact ha
    ·exact he j v' w' h1 h2
   ·refine aa nS (aa BH (aa List.all_cons (aa GU ?_)));rfl
theorem GV(k:Nat):∀{v w:ab} {b:Bool},kf k v w=some b->kg k v w b:=by
 induction k with
 | zero=>exact λh=> .base (yj h)
 | succ k ih =>
  intro v w b h;rcases v with _ | _ | _ | vs | vs | _ | _ | _<;>first | exact .base (yj h) | skip
  ·rcases w with _ | _ | _ | ws | ws | _ | _ | _<;>first | exact nn h | skip
   by_cases q:vs.length=ws.length
   ·obtain ⟨e,he,rfl⟩:=GT ((if_pos q).symm.trans h) q;exact .list e q λj v w a b=>ih (he j v w a b)
   ·exact ao (aM ((if_neg q).symm.trans h)) (.BG q)
  ·rcases w with _ | _ | _ | ws | ws | _ | _ | _<;>first | exact nn h | skip
   by_cases q:vs.length=ws.length
   ·obtain ⟨e,he,rfl⟩:=GT ((if_pos q).symm.trans h) q;exact .tuple e q λj v w a b=>ih (he j v w a b)
   ·exact nn ((if_neg q).symm.trans h)
noncomputable abbrev vh:ab->ab->Option Bool:=kf 3
noncomputable def GW(v w:ab):Bool:=d9 v.ix w.ix&&xA true (λv=>xV false false (λJ=>xA false (λw=>xV false false (λJ=>true) (λJ=>false) (λJ=>false) w) (λJ=>false) (λJ=>false) (λJ=>false) (λJ=>false) w) (λJ=>false) (λJ=>false) v) (λJ=>true) (λJ=>true) (λJ=>true) (λJ=>true) v
noncomputable def kh(v:ab):List ab->Option Bool
 | []=>some false
 | w::ws=>(gf w v).bind λa=>(kh v ws).map λb=>a || b
def fP(a:ab)(k:Int->Prop):Prop:=xA False (λJ=>False) k (λJ=>False) (λJ=>False) (λJ=>False) a
def pq(a:ab)(k:List UInt8->Prop):Prop:=xA False (λJ=>False) (λJ=>False) k (λJ=>False) (λJ=>False) a
def kW(a:ab)(k:List ab->Prop):Prop:=xA False (λJ=>False) (λJ=>False) (λJ=>False) k (λJ=>False) a
def yk(a:ab)(k:List ab->Prop):Prop:=xA False (λJ=>False) (λJ=>False) (λJ=>False) (λJ=>False) k a
def ti(v:Value)(k:Addr->Prop):Prop:=xV False False (λJ=>False) (λJ=>False) k v
def tj(a:ab)(k:Value->Prop):Prop:=xA False k (λJ=>False) (λJ=>False) (λJ=>False) (λJ=>False) a
section
variable{α:Type}{C:ab->Prop}{a:ab}
theorem fP.of{k}(h:fP a k)(f:∀i,k i->C (.int i)):C a:=by cases a<;>first | exact f _ h | exact h.elim
theorem pq.of{k}(h:pq a k)(f:∀i,k i->C (.bytes i)):C a:=by cases a<;>first | exact f _ h | exact h.elim
theorem kW.of{k}(h:kW a k)(f:∀i,k i->C (.list i)):C a:=by cases a<;>first | exact f _ h | exact h.elim
theorem yk.of{k}(h:yk a k)(f:∀i,k i->C (.tuple i)):C a:=by cases a<;>first | exact f _ h | exact h.elim
theorem tj.of{k}(h:tj a k)(f:∀i,k i->C (.raw i)):C a:=by cases a<;>first | exact f _ h | exact h.elim
theorem ti.of{C:Value->Prop}{v:Value}{k}(h:ti v k)(f:∀i,k i->C (.ref i)):C v:=by cases v<;>first | exact f _ h | exact h.elim
end
def jQ(i:Int)(k:Nat->Prop):Prop:=match i with | .ofNat n=>k n | .negSucc _=>False
theorem jQ.of{C:Int->Prop}{i:Int}{k}(h:jQ i k)(f:∀n:Nat,k n->C n):C i:=by cases i<;>first | exact f _ h | exact h.elim
noncomputable def tm(i:Int):Bool:=match i with | .ofNat n=>d9 n 1 | .negSucc _=>false
theorem tm.eq{i:Int}(h:tm i=true):i=1:=by
 cases i with
 | ofNat n=>exact congrArg kX (Nat.eq_of_beq_eq_true h)
 | negSucc=>exact ff h
def lR(a b:ab)(k:Int->Int->Prop):Prop:=fP a λx=>fP b (k x)
noncomputable def fQ(x y:Int):Int:=match x with | .ofNat m=>(match y with | .ofNat n=> .ofNat (m / n) | y=>(kX m).fdiv y) | x=>x.fdiv y
noncomputable def mS(x y:Int):Int:=match x with | .ofNat m=>(match y with | .ofNat n=> .ofNat (m % n) | y=>(kX m).fmod y) | x=>x.fmod y
theorem pr(x y:Int):fQ x y=x.fdiv y:=by
 rcases x with m | m
 ·rcases y with n | n
  ·exact Eq.symm (BI (m:Int) (eh n):(m:Int).fdiv (n:Int)=((m / n:Nat):Int))
  ·rfl
 ·rfl
theorem lS(x y:Int):mS x y=x.fmod y:=by
 rcases x with m | m
 ·rcases y with n | n
  ·exact Eq.symm (tr (m:Int) (eh n):(m:Int).fmod (n:Int)=((m % n:Nat):Int))
  ·rfl
 ·rfl
def Qh(a b:ab)(st:St)(K:ab->St->Prop):Prop :=
 xA False (λv=>ti v λl=>tj b λv=>ti v λr=>∃x y,st.σ l=some (.list x)/\st.σ r=some (.list y)/\dQ (x.length+y.length)/\K (.list (x++y)) st) (λx=>fP b λy=>K (.int (x+y)) st)
  (λx=>pq b λy=>dQ (x.length+y.length)/\K (.bytes (x++y)) st) (λx=>kW b λy=>dQ (x.length+y.length)/\K (.list (x++y)) st) (λx=>yk b λy=>dQ (x.length+y.length)/\K (.tuple (x++y)) st) a
def Qi(a b:ab)(st:St)(K:ab->St->Prop):Prop :=
 xA False (λJ=>False) (λx=>fP b λy=>(x.natAbs≤2^31/\y.natAbs≤2^31)/\K (.int (x*y)) st) (λJ=>False) (λl=>xL False (λx r=>xL (fP b λy=>(0≤y/\y≤256)/\K (.list (cf y.toNat x)) st) (λJ J=>False) r) l) (λJ=>False) a
def yl(op:o8)(a b:ab)(st:St)(K:ab->St->Prop):Prop :=
 op.casesOn (Qh a b st K) (lR a b λx y=>K (.int (x - y)) st) (Qi a b st K) False False (lR a b λx y=>y≠0/\K (.int (mS x y)) st) (lR a b λx y=>(0≤x/\x≤100/\0≤y/\y≤100)/\K (.int (x^y.toNat)) st)
  (lR a b λx y=>jQ x λx=>cX (tm y) (x≤2^31/\K (.int (x*2:Nat)) st)) (lR a b λx y=>jQ x λx=>cX (tm y) (x≤2^31/\K (.int (x / 2:Nat)) st)) False
  (lR a b λx y=>jQ x λx=>jQ y λy=>K (.int (x ^^^ y:Nat)) st) (lR a b λx y=>jQ x λx=>jQ y λy=>K (.int (x &&& y:Nat)) st) (lR a b λx y=>(y≠0/\y.natAbs≤2^31)/\K (.int (fQ x y)) st)
def BJ(op:o8)(a b:ab)(st:St)(K:ab->St->Prop):Prop:=op.casesOn (lR a b λx y=>K (.int (x+y)) st) False False False False False False False False False False False False
noncomputable def tt(f:Int->Int->Bool)(a b:ab):Option Bool:=xA none (λJ=>none) (λx=>xA none (λJ=>none) (λy=>some (f x y)) (λJ=>none) (λJ=>none) (λJ=>none) b) (λJ=>none) (λJ=>none) (λJ=>none) a
noncomputable def ym(a b:ab):Option Bool:=if vg b then xA none (λv=>xV none (some true) (λJ=>none) (λJ=>none) (λJ=>some false) v) (λJ=>none) (λJ=>some false) (λJ=>none) (λJ=>none) a else none
noncomputable def nT(σ:aq)(op:fm)(a b:ab):Option Bool :=
 op.casesOn (vh a b) (if GW a b=true then (vh a b).map (λz=>!z) else none) (tt (λx y=>decide (x<y)) a b) (tt (λx y=>decide (x≤y)) a b) (tt (λx y=>decide (y<x)) a b) (tt (λx y=>decide (y≤x)) a b) (ym a b) ((ym a b).map (λz=>!z))
  ((eV σ b).bind (kh a)) (((eV σ b).bind (kh a)).map (λz=>!z))
inductive vi(σ:aq)(a b:ab)(k:Bool->Prop):Prop
 | mk (r:Bool):(eV σ b).bind (kh a)=some r->k r->vi σ a b k
noncomputable def Qj(op:fm):Option Bool:=op.casesOn none none none none none none none none (some false) (some true)
def eX(op:fm)(a b:ab)(st:St)(K:Bool->St->Prop):Prop:=match Qj op with
 | some c=>vi st.σ a b λr=>K (match c with | true=> !r | false=>r) st
 | none=>bB (nT st.σ op a b) λr=>K r st
theorem eX.ex{op:fm}{a b:ab}{K:Bool->St->Prop}(h:eX op a b st K):∃r,nT st.σ op a b=some r/\K r st:=by
 cases op<;>first | exact bB.ex (k:=λr=>K r st) h | (obtain ⟨r,e,k⟩:=h;first | exact ⟨r,e,k⟩ | exact ⟨!r,congrArg (yn (λz=>!z)) e,k⟩)
theorem eX.mono{op:fm}{a b:ab}{K K':Bool->St->Prop}(h:eX op a b st K)(f:∀r,K r st->K' r st):eX op a b st K':=by
 cases op<;>first | exact (bB.ex (k:=λr=>K r st) h).elim λr q=>bB.i (k:=λr=>K' r st) q.1 (f r q.2) | (obtain ⟨r,e,k⟩:=h;exact ⟨r,e,f _ k⟩)
noncomputable def vj(σ:aq)(ov:ab)(x:Str):Option ab:=(lP σ ov x).bind λv=>mQ (attrOk σ ov x v) (some v)
theorem Qk{ov:ab}(h:vj σ ov x=some v):lP σ ov x=some v/\attrOk σ ov x v=true:=by
 obtain ⟨w,e,h⟩:=cQ.mp h;obtain ⟨q,h⟩:=mQ.inv h;exact ao (aM h) (⟨e,q⟩)
def GX(ov:ab)(x:Str)(st:St)(K:ab->St->Prop):Prop:=bB (vj st.σ ov x) λv=>K v st
noncomputable def jR(σ:aq)(v:ab):Option (List ab):=xA none (λv=>(tf v).bind λa=>mR (σ a)) (λJ=>none) (λJ=>none) some (λJ=>none) v
theorem jR.of(h:jR σ v=some vs)(l:C (.list vs))(r:∀a,σ a=some (.list vs)->C (.ref a)):C v:=by
 rcases v with ⟨⟩<;>first | exact nn h | exact aM h▸l | skip
 obtain ⟨a,h1,h2⟩:=cQ.mp h;exact BE h1▸r a (GQ h2)
def Ql(v:Value)(k:Bool->Prop):Prop:=xV False False k (λJ=>False) (λJ=>False) v
def jl(v:ab)(st:St)(K:Bool->St->Prop):Prop:=tj v λv=>Ql v λb=>K b st
theorem jl.of{K:Bool->St->Prop}(h:jl v st K)(f:∀b,K b st->C (.bool b)):C v :=
 tj.of h λv h=>by cases v<;>first | exact f _ h | exact h.elim
inductive fR(vs:List ab)(st:St)(K:ab->St->Prop):Prop
 | fz:dQ vs.length->K (.list vs) st->fR vs st K
 | own:dQ vs.length->(∀a,st.σ a=none->K (.ref a) (st.put (st.σ.set a (.list vs))))->fR vs st K
theorem fR.len(h:fR vs st K):dQ vs.length:=by cases h<;>assumption
noncomputable def px(i:Int)(vs:List ab):Option ab:=match i with
 | .ofNat k=>mQ (Nat.blt k (2^40)) vs[k]?
 | .negSucc _=>none
noncomputable def mT(σ:aq)(o:ab)(i:Int):Option ab:=o.casesOn (motive_1:=λJ=>Option ab) (λJ=>(eV σ o).bind (px i)) (λJ=>none) (λJ=>none) (λl=>px i l) (λl=>px i l) (λJ J=>none) (λks vs=>qT i ks vs) λJ=>none
def qV(o i:ab)(st:St)(K:ab->St->Prop):Prop:=fP i λi=>bB (mT st.σ o i) λv=>K v st
noncomputable def lT:Option ab->Option Nat
 | none=>some 0
 | some (.int i)=>if 0≤i/\i<2^40 then some i.toNat else none
 | _=>none
noncomputable def lV(n:Nat):Option ab->Option Nat
 | none=>some n
 | some (.int i)=>if 0≤i/\i<2^40 then some i.toNat else none
 | _=>none
inductive kj(o:ab)(lo hi:Option ab)(st:St)(K:ab->St->Prop):Prop
 | bytes (b:List UInt8) (l h:Nat):o= .bytes b->lT lo=some l->lV b.length hi=some h->dQ b.length->K (.bytes ((b.take h).drop l)) st->kj o lo hi st K
 | list (vs:List ab) (l h:Nat):jR st.σ o=some vs->lT lo=some l->lV vs.length hi=some h->dQ vs.length->fR ((vs.take h).drop l) st K->kj o lo hi st K
 | dh (a:Addr) (b:List UInt8) (l h:Nat):o= .ref a->st.σ a=some (.dh b)->lT lo=some l->lV b.length hi=some h->dQ b.length->
   (∀a',st.σ a'=none->K (.ref a') (st.put (st.σ.set a' (.dh ((b.take h).drop l)))))->kj o lo hi st K
inductive tv(o:ab)(x:Str)(v:ab)(st:St)(K:St->Prop):Prop
 | mk (a C:Addr) (fs:List (Str×ab)):o= .ref a->st.σ a=some (.inst C fs)->mP C x=true/\fs.length≤100->K (st.put (st.σ.set a (.inst C (nR x v fs))))->tv o x v st K
inductive py(o i v:ab)(st:St)(K:St->Prop):Prop
 | mk (a:Addr) (vs:List ab) (k:Int):o= .ref a->st.σ a=some (.list vs)->i= .int k->0≤k/\k<2^40->k.toNat<vs.length->K (st.put (st.σ.set a (.list (vs.set k.toNat v))))->py o i v st K
inductive vk(o:ab)(lo hi:Option ab)(v:ab)(st:St)(K:St->Prop):Prop
 | list (a:Addr) (vs ws:List ab) (l h:Nat):o= .ref a->st.σ a=some (.list vs)->v= .list ws->lT lo=some l->lV vs.length hi=some h->dQ (vs.length+ws.length)->l≤vs.length->l≤h->
   K (st.put (st.σ.set a (.list (vs.take l++ws++vs.drop h))))->vk o lo hi v st K
 | dh (a:Addr) (b c:List UInt8) (l h:Nat):o= .ref a->st.σ a=some (.dh b)->v= .bytes c->lT lo=some l->lV b.length hi=some h->dQ b.length->l+c.length=h->h≤b.length->
   K (st.put (st.σ.set a (.dh (b.take l++c++b.drop h))))->vk o lo hi v st K
noncomputable def nV(i:Nat)(st:St):Bool:=match vc i st.fz with | true=>false | false=>vd i st.m
theorem Qm{i:Nat}{l:List Nat}(h:vc i l=false):i∉l:=by
 induction l with
 | nil=>exact dJ
 | cons j l ih =>
  change (match d9 i j with | true=>true | false=>vc i l)=false at h
  cases q:d9 i j with
  | true=>rw [q] at h;exact ff h.symm
  | false =>
   rw [q] at h
   exact λm=>(bq.mp m).elim (λe=>ff (q.symm.trans (ao e (Ge _)))) (ih h)
theorem Qn{i:Nat}(h:nV i st=true):i∉st.fz:=Qm (by
 unfold nV at h
 cases q:vc i st.fz with
 | false=>rfl
 | true=>rw [q] at h;exact ff h)
theorem Qo{x:α}:∀{i j:Nat},vd j (l.set i x)=vd j l:=by
 induction l with
 | nil=>exact rfl
 | cons y l ih =>
  intro i j;cases i
  ·cases j<;>rfl
  ·cases j
   ·rfl
   ·exact ih
theorem GY{i j:Nat}{v:Option ab}:nV j {st with m:=st.m.set i v}=nV j st:=by
 unfold nV;exact aa Qo rfl
def pz(i:Nat)(v:ab)(st:St)(K:St->Prop):Prop:=cX (nV i st) (K (st.jj i v))
def gh:List Nat->List ab->St->(St->Prop)->Prop
 | i::is,v::vs,st,K=>pz i v st λst=>gh is vs st K
 | [],[],st,K=>K st
 | _,_,_,_=>False
def pA(gd:List Nat)(aO:Bool)(v:ab)(st:St)(K:St->Prop):Prop:=match aO with
 | false=>gh gd [v] st K
 | true=>bB (eV st.σ v) λvs=>gh gd vs st K
def Guard(own:List (Addr×List ab))(st:St):Prop:=∀p∈own,st.σ p.1=some (.list p.2)
def pB(own:List (Addr×List ab))(step:ab->St->(cn->St->Prop)->Prop)(K:cn->St->Prop):List ab->St->Prop
 | [],st=>Guard own st/\K .next st
 | x::xs,st=>Guard own st/\step x st λfl st'=>match fl with
  | .next=>Wk (pB own step K xs) st'
  | .cont=>Wk (pB own step K xs) st'
  | .brk=>K .next st'
  | .ret v=>K (.ret v) st'
def lW(own:List (Addr×List ab))(step:ab->St->(Option ab->St->Prop)->Prop)(K:List ab->St->Prop):List ab->List ab->St->Prop
 | [],acc,st=>Guard own st/\K acc st
 | x::xs,acc,st=>Guard own st/\step x st λr st'=>Wk (λst'=>match r with
  | some v=>lW own step K xs (acc++ [v]) st'
  | none=>lW own step K xs acc st') st'
inductive yo{ι:Type}(S:ι->St)(μ:ι->Nat)(P:ι->Prop)(x:ι)(st:St):Prop
 | mk (y:ι) (bs:List Bool):μ y<μ x->P y->gx bs st=S y->yo S μ P x st
inductive pC(turn:(cn->St->Prop)->(St->Prop)->St->Prop)(K:cn->St->Prop)(st:St):Prop
 | mk {ι:Type} (S:ι->St) (μ:ι->Nat) (P:ι->Prop) (x:ι) (bs:List Bool):P x->gx bs st=S x->(∀x,P x->turn (λfl st'=>match fl with
   | .next=>yo S μ P x st'
   | .cont=>yo S μ P x st'
   | .brk=>K .next st'
   | .ret v=>K (.ret v) st') (K .next) (S x))->pC turn K st
theorem pC.mono{t t':(cn->St->Prop)->(St->Prop)->St->Prop}{K:cn->St->Prop}(f:∀Kb Ke st,t Kb Ke st->t' Kb Ke st)(h:pC t K st):pC t' K st :=
 let ⟨S,μ,P,x,bs,hx,e,h⟩:=h;⟨S,μ,P,x,bs,hx,e,λx hx=>f _ _ _ (h x hx)⟩
noncomputable def qW(a b:List ab):List ab:=yp (λx y=> .tuple [x,y]) a b
noncomputable def tw:List ab->List ab->List ab->List ab
 | a::as,b::bs,c::cs=> .tuple [a,b,c]::tw as bs cs
 | _,_,_=> []
def yq(vs:List ab)(K:List ab->Prop):Prop:=match vs with
 | a::b::r=>(match r with
  | []=>(match a with | .list a=>kW b λb=>K (qW a b) | .bytes a=>pq b λb=>K (qW (dZ a) (dZ b)) | _=>False)
  | c::r=>(match r with
   | []=>kW a λa=>kW b λb=>kW c λc=>K (tw a b c)
   | _::_=>False))
 | _=>False
noncomputable def lX(i:Nat):List ab->List ab
 | []=> []
 | x::xs=> .tuple [.int i,x]::lX (i+1) xs
noncomputable def kY(lo:Int):Nat->List ab
 | 0=> []
 | n+1=> .int lo::kY (lo+1) n
def Qp(vs:List ab)(K:List ab->Prop):Prop:=match vs with
 | []=>False
 | a::r=>match r with
  | []=>fP a λa=>(-2^30<a/\a<2^30)/\K (kY 0 a.toNat)
  | b::r=>match r with
   | []=>lR a b λa b=>(-2^30<a/\a<2^30/\ -2^30<b/\b<2^30)/\K (kY a (b - a).toNat)
   | _::_=>False
def tx(o:Option (Option ab))(k:ab->Prop):Prop:=match o with
 | some o=>(match o with | some v=>k v | none=>False)
 | none=>False
theorem tx.of{o:Option (Option ab)}{k:ab->Prop}{C:Option (Option ab)->Prop}(h:tx o k)(f:∀v,k v->C (some (some v))):C o:=by
 cases o with
 | none=>exact h.elim
 | some o=>cases o with
  | none=>exact h.elim
  | some v=>exact f v h
inductive BK(X:Cx)(σ:aq)(κ:bI)(h:Heap)(K:ab->aq->Prop)(z:Value)(s':al):Prop
 | mk (v:ab) (σ':aq) (κ':bI):bk X σ' κ' s'->be (λJ=>False) σ κ h σ' κ' s'.heap->am (aj σ' κ') s'.heap v z->K v σ'->BK X σ κ h K z s'
structure az(X:Cx)(n:Nat)(f:ab)(args:List ab)(dD:List (Str×ab))(K:ab->aq->Prop)(σ:aq):Prop where
 run:∀A κ s y ys dE,cG n A->bk X σ κ s->am (aj σ κ) s.heap f y->aN (aj σ κ) s.heap args ys->aN (aj σ κ) s.heap (dD.map (λz=>z.2)) dE->
  (∃k,∀A' Q E,Q k s->ai X.M A' (keeperOf y) Q E s)/\
  ai X.M A (yc y ys ((dD.map (λz=>z.1)).zip dE)) (BK X σ κ s.heap K) (λJ J=>False) s
def vm(X:Cx)(σ:aq)(o:ab)(x:Str)(f:Value):Prop :=
 ∀κ s y,bk X σ κ s->am (aj σ κ) s.heap o y->∀A pl Q E,(∀s',s'.heap=s.heap->s'.os=s.os->s'.gens=s.gens->Q (f,[y]) s')->ai X.M A (getMethod y x pl) Q E s
inductive MethP(X:Cx)(σ:aq)(o:ab)(x:Str)(k:Value->Prop):Prop
 | mk (f:Value):vm X σ o x f->k f->MethP X σ o x k
section
variable(X:Cx)(n:Nat)
mutual
def bC:IE->(ab->St->Prop)->St->Prop
 | .v i,K,st=>tx st.m[i]? λv=>K v st
 | .ah v,K,st=>K v st
 | .bin op a b,K,st=>bC a (λx st=>bC b (λy st=>yl op x y st K) st) st
 | .neg a,K,st=>bC a (λx st=>fP x λi=>K (.int (-i)) st) st
 | .not a,K,st=>bC a (λx st=>jl x st λb st=>K (.bool (!b)) st) st
 | .bool bT es,K,st=>pD bT es K st
 | .ite t a b,K,st=>nW t (λc st=>bf c (bC a K st) (bC b K st)) st
 | .cmp op a b,K,st=>bC a (λx st=>bC b (λy st=>eX op x y st λr st=>K (.bool r) st) st) st
 | .kc fN eL a b c,K,st=>bC a (λx st=>bC b (λy st=>eX fN x y st λr st=>bf r (bC c (λz st=>eX eL y z st λr st=>K (.bool r) st) st) (K (.bool false) st)) st) st
 | .call f args dD,K,st=>match dD with
  | []=>bC f (λfv st=>jm args (λvs st=>az X n fv vs [] (λv σ=>K v (st.put σ)) st.σ) st) st
  | _::_=>bC f (λfv st=>jm args (λvs st=>qX dD (λks st=>az X n fv vs ks (λv σ=>K v (st.put σ)) st.σ) st) st) st
 | .aI o x args,K,st=>bC o (λov st=>MethP X st.σ ov x λf=>jm args (λvs st=>az X n (.raw f) (ov::vs) [] (λv σ=>K v (st.put σ)) st.σ) st) st
 | .a o x,K,st=>bC o (λov st=>GX ov x st K) st
 | .sub o i,K,st=>bC o (λov st=>bC i (λiv st=>qV ov iv st K) st) st
 | .slice o lo hi,K,st=>bC o (λov st=>pE lo (λl st=>pE hi (λh st=>kj ov l h st K) st) st) st
 | .tuple es,K,st=>jm es (λvs st=>cX (short vs 100) (K (.tuple vs) st)) st
 | .list es,K,st=>jm es (λvs st=>fR vs st K) st
 | .comp cF gd aO it cond k,K,st=>vn it (λitems own st=>dQ items.length/\
   lW own (λx st K'=>pA gd aO x st λst=>yr cond (λb st=>bf b (bC cF (λv st=>K' (some v) st) st) (K' none st)) st)
    (λvs st'=>fR vs (st.put st'.σ) K) items [] (st.GN k)) st
 | .lam i,K,st=>tx st.m[i]? λv=>pq v λb=>i<st.m.length/\K (.lam b) {st with fz:=i::st.fz}
def jm:List IE->(List ab->St->Prop)->St->Prop
 | [],K,st=>K [] st
 | e::es,K,st=>match es with
  | []=>bC e (λv st=>K [v] st) st
  | _::_=>bC e (λv st=>jm es (λvs st=>K (v::vs) st) st) st
def qX:List (Str×IE)->(List (Str×ab)->St->Prop)->St->Prop
 | [],K,st=>K [] st
 | (x,e)::es,K,st=>bC e (λv st=>qX es (λvs st=>K ((x,v)::vs) st) st) st
def pE:Option IE->(Option ab->St->Prop)->St->Prop
 | none,K,st=>K none st
 | some e,K,st=>bC e (λv st=>K (some v) st) st
def pD(bT:Bool):List IE->(ab->St->Prop)->St->Prop
 | [],_,_=>False
 | [e],K,st=>bC e K st
 | e::es,K,st=>bC e (λv st=>jl v st λb st=>ke bT b (pD bT es K st) (K v st)) st
def nW:IB->(Bool->St->Prop)->St->Prop
 | .not a,K,st=>nW a (λb st=>K (!b) st) st
 | .bool bT es,K,st=>vo bT es K st
 | .cmp op a b,K,st=>bC a (λx st=>bC b (λy st=>eX op x y st K) st) st
 | .kc fN eL a b c,K,st=>bC a (λx st=>bC b (λy st=>eX fN x y st λr st=>bf r (bC c (λz st=>eX eL y z st K) st) (K false st)) st) st
 | .val e,K,st=>bC e (λv st=>jl v st K) st
def vo(bT:Bool):List IB->(Bool->St->Prop)->St->Prop
 | [],K,st=>K bT st
 | e::es,K,st=>match es with
  | []=>nW e K st
  | _::_=>nW e (λb st=>ke bT b (vo bT es K st) (K (!bT) st)) st
def yr:Option IB->(Bool->St->Prop)->St->Prop
 | none,K,st=>K true st
 | some e,K,st=>nW e K st
def vn:II->(List ab->List (Addr×List ab)->St->Prop)->St->Prop
 | .val e,K,st=>bC e (λv st=>bB (th st.σ v) λvs=>K vs (ownOf st.σ v) st) st
 | .range es,K,st=>jm es (λvs st=>Qp vs λzs=>K zs [] st) st
 | .enum e,K,st=>bC e (λv st=>bB (jR st.σ v) λvs=>K (lX 0 vs) (ownOf st.σ v) st) st
 | .zip es,K,st=>jm es (λvs st=>yq vs λzs=>K zs [] st) st
end
def ty:IT->ab->(St->Prop)->St->Prop
 | .v i,v,K,st=>pz i v st K
 | .a o x,v,K,st=>bC X n o (λov st=>tv ov x v st K) st
 | .sub o i,v,K,st=>bC X n o (λov st=>bC X n i (λiv st=>py ov iv v st K) st) st
 | .slice o lo hi,v,K,st=>bC X n o (λov st=>pE X n lo (λl st=>pE X n hi (λh st=>vk ov l h v st K) st) st) st
def nX:List IT->List ab->(St->Prop)->St->Prop
 | [],[],K,st=>K st
 | t::ts,v::vs,K,st=>ty X n t v (λst=>nX ts vs K st) st
 | _,_,_,_=>False
mutual
def wpS:IS->(cn->St->Prop)->St->Prop
 | .expr e,K,st=>bC X n e (λJ st=>K .next st) st
 | .s t e,K,st=>bC X n e (λv st=>ty X n t v (λst=>K .next st) st) st
 | .dY ts e,K,st=>bC X n e (λv st=>bB (eV st.σ v) λvs=>cX (ve ts vs) (nX X n ts vs (λst=>K .next st) st)) st
 | .aug o i op e,K,st=>bC X n o (λov st=>bC X n i (λiv st=>qV ov iv st λold st=>bC X n e (λw st=>BJ op old w st λr st=>py ov iv r st λst=>K .next st) st) st) st
 | .loop gd aO it body,K,st=>vn X n it (λitems own st=>Wk (pB own (λx st K'=>pA gd aO x st λst=>dy body K' st) K items) st) st
 | .jh t body,K,st=>pC (λKb Ke st=>nW X n t (λb st=>bf b (dy body Kb st) (Ke st)) st) K st
 | .ifs t a b,K,st=>nW X n t (λc st=>bf c (dy a K st) (dy b K st)) st
 | .ret none,K,st=>K (.ret .none) st
 | .ret (some e),K,st=>bC X n e (λv st=>K (.ret v) st) st
 | .fail,_,_=>False
 | .pass,K,st=>K .next st
def dy:List IS->(cn->St->Prop)->St->Prop
 | [],K,st=>K .next st
 | s::ss,K,st=>match ss with
  | []=>wpS s K st
  | _::_=>wpS s (λfl st=>match fl with
   | .next=>dy ss K st
   | fl=>K fl st) st
end
theorem Qq{e:IE}{es:List IE}{K:List ab->St->Prop}(h:jm X n (e::es) K st):bC X n e (λv st=>jm X n es (λvs st=>K (v::vs) st) st) st:=by cases es<;>exact h
theorem Qr{f:IE}{args:List IE}{dD:List (Str×IE)}(h:bC X n (.call f args dD) K st) :
  bC X n f (λfv st=>jm X n args (λvs st=>qX X n dD (λks st=>az X n fv vs ks (λv σ=>K v (st.put σ)) st.σ) st) st) st:=by cases dD<;>exact h
end
end
noncomputable abbrev Qs:ab:= .raw (.ref 21)
noncomputable abbrev Qt:ab:= .raw (.ref 38)
noncomputable abbrev Qu:ab:= .raw (.ref 51)
noncomputable abbrev GZ:ab:= .raw (.ref 77)
noncomputable abbrev BL:ab:= .raw (.ref 88)
noncomputable abbrev BM:ab:= .raw (.ref 95)
noncomputable abbrev BN:ab:= .raw (.ref 102)
noncomputable abbrev G0:ab:= .raw (.ref 107)
noncomputable abbrev G9:ab:= .raw (.ref 114)
noncomputable abbrev BO:ab:= .raw (.ref 121)
noncomputable abbrev Ha:ab:= .raw (.ref 128)
noncomputable abbrev BP:ab:= .raw (.ref 135)
noncomputable abbrev Hb:ab:= .raw (.ref 142)
noncomputable abbrev yt:ab:= .raw (.ref 149)
noncomputable abbrev BQ:ab:= .raw (.ref 156)
noncomputable abbrev Hc:ab:= .raw (.ref 163)
noncomputable abbrev BR:ab:= .raw (.ref 168)
noncomputable abbrev vp:ab:= .raw (.ref 173)
noncomputable abbrev BS:ab:= .raw (.ref 180)
noncomputable abbrev Hd:ab:= .raw (.ref 185)
noncomputable abbrev vq:ab:= .raw (.ref 190)
noncomputable abbrev BU:ab:= .raw (.ref 195)
noncomputable abbrev He:ab:= .raw (.ref 202)
noncomputable abbrev Hf:ab:= .raw (.ref 207)
noncomputable abbrev BW:ab:= .raw (.ref 214)
noncomputable abbrev Hg:ab:= .raw (.ref 221)
noncomputable abbrev Hh:ab:= .raw (.ref 226)
noncomputable abbrev Hi:ab:= .raw (.ref 231)
noncomputable abbrev Hj:ab:= .raw (.ref 236)
noncomputable abbrev Hk:ab:= .raw (.ref 338)
noncomputable abbrev Hl:ab:= .raw (.ref 436)
noncomputable abbrev Hm:ab:= .raw (.ref 458)
noncomputable abbrev Hn:ab:= .raw (.ref 469)
noncomputable abbrev yu:ab:= .raw (.ref 476)
noncomputable abbrev Ho:ab:= .raw (.ref 483)
noncomputable abbrev Hp:ab:= .raw (.ref 490)
noncomputable abbrev BX:ab:= .raw (.ref 497)
noncomputable abbrev Hq:ab:= .raw (.ref 504)
noncomputable abbrev Hr:ab:= .raw (.ref 641)
noncomputable abbrev Hs:ab:= .raw (.ref 652)
noncomputable abbrev Ht:ab:= .raw (.ref 739)
noncomputable abbrev tz:ab:= .raw (.ref 750)
noncomputable abbrev Hu:ab:= .raw (.ref 757)
noncomputable abbrev Hv:ab:= .raw (.ref 764)
noncomputable abbrev Hw:ab:= .raw (.ref 769)
noncomputable abbrev vt:ab:= .raw (.ref 776)
noncomputable abbrev Hx:ab:= .raw (.ref 781)
noncomputable abbrev Hy:ab:= .raw (.ref 786)
noncomputable abbrev Hz:ab:= .raw (.ref 793)
noncomputable abbrev HA:ab:= .raw (.ref 798)
noncomputable abbrev Qv:ab:= .raw (.ref 805)
noncomputable def Qw:Fn:=⟨5,5,[
  .s (.a (.v 0) "child") (.v 1),
  .s (.a (.v 0) "row") (.v 2),
  .s (.a (.v 0) "many") (.v 3),
  .s (.a (.v 0) "first") (.v 4)]⟩
noncomputable def Qx:Fn:=⟨2,2,[
  .ret (some (.bin .FloorDiv (.bin .Sub (.bin .Add (.v 0) (.a (.v 1) "sector")) (.ah (.int 1))) (.a (.v 1) "sector")))]⟩
noncomputable def Qy:Fn:=⟨2,2,[
  .ifs (.bool false [(.not (.kc .LtE .LtE (.ah (.int 1)) (.v 1) (.ah (.int 3)))),(.cmp .LtE (.v 0) (.v 1))]) [.fail] []]⟩
noncomputable def Qz:Fn:=⟨4,5,[
  .expr (.call (.ah BM) [(.v 1),(.v 2)] []),
  .s (.v 4) (.call (.ah BL) [(.v 0),(.v 3)] []),
  .s (.v 4) (.bin .Add (.v 4) (.bin .Mult (.v 2) (.bin .FloorDiv (.bin .Sub (.bin .Sub (.bin .Add (.v 4) (.v 1)) (.v 2)) (.ah (.int 1))) (.bin .Sub (.v 1) (.v 2))))),
  .ret (some (.bin .Mult (.bin .FloorDiv (.bin .Add (.v 4) (.v 2)) (.bin .Add (.v 2) (.ah (.int 1)))) (.bin .Add (.v 2) (.ah (.int 1)))))]⟩
noncomputable def QA:Fn:=⟨3,7,[
  .dY [(.v 3),(.v 4)] (.tuple [(.bin .FloorDiv (.v 0) (.bin .Sub (.v 1) (.v 2))),(.bin .Mod (.v 0) (.bin .Sub (.v 1) (.v 2)))]),
  .s (.v 5) (.ite (.cmp .Gt (.v 4) (.ah (.int 0))) (.bin .Add (.v 4) (.v 2)) (.ah (.int 0))),
  .s (.v 6) (.ite (.cmp .Eq (.v 3) (.ah (.int 0))) (.v 5) (.v 1)),
  .ret (some (.comp (.ite (.cmp .Lt (.v 8) (.v 5)) (.bin .Add (.v 3) (.ah (.int 1))) (.v 3)) [8] false (.range [(.v 6)]) none 2))]⟩
noncomputable def QB:Fn:=⟨3,3,[
  .ret (some (.bool true [(.cmp .Eq (.v 1) (.ah (.int 1))),(.cmp .Eq (.bin .Mod (.bin .FloorDiv (.v 0) (.a (.v 2) "slab")) (.ah (.int 2))) (.ah (.int 1)))]))]⟩
noncomputable def QC:Fn:=⟨5,13,[
  .expr (.call (.ah BM) [(.v 2),(.v 3)] []),
  .dY [(.v 5),(.v 6)] (.tuple [(.list []),(.ah (.int 0))]),
  .loop [7,8] true (.enum (.call (.ah G0) [(.call (.ah BL) [(.v 1),(.v 4)] []),(.v 2),(.v 3)] [])) [.s (.v 9) (.bin .Add (.bin .Mod (.v 0) (.v 2)) (.v 7)), .s (.v 10) (.cmp .Lt (.v 7) (.v 3)), .expr (.aI (.v 5) "append" [(.call (.ah GZ) [(.bin .Mod (.v 9) (.v 2)),(.bin .Add (.bin .FloorDiv (.v 0) (.v 2)) (.bin .FloorDiv (.v 9) (.v 2))),(.v 8),(.ite (.val (.v 10)) (.neg (.ah (.int 1))) (.v 6))] [])]), .s (.v 6) (.ite (.val (.v 10)) (.v 6) (.bin .Add (.v 6) (.v 8)))],
  .ifs (.bool true [(.val (.call (.ah G9) [(.v 0),(.v 3),(.v 4)] [])),(.cmp .Gt (.call (.ah (.raw (.builtin "len"))) [(.v 5)] []) (.ah (.int 1)))]) [.dY [(.v 11),(.v 12)] (.tuple [(.sub (.v 5) (.ah (.int 0))),(.sub (.v 5) (.ah (.int 1)))]), .dY [(.a (.v 11) "child"),(.a (.v 11) "row"),(.a (.v 12) "child"),(.a (.v 12) "row")] (.tuple [(.a (.v 12) "child"),(.a (.v 12) "row"),(.a (.v 11) "child"),(.a (.v 11) "row")])] [],
  .ret (some (.v 5))]⟩
noncomputable def QD:Fn:=⟨3,8,[
  .s (.v 3) (.list []),
  .loop [4] false (.val (.v 1)) [.ifs (.cmp .GtE (.a (.v 4) "first") (.ah (.int 0))) [.dY [(.v 5),(.v 6)] (.tuple [(.bin .Mult (.a (.v 4) "first") (.a (.v 2) "sector")),(.bin .Mult (.a (.v 4) "many") (.a (.v 2) "sector"))]), .s (.v 7) (.call (.ah (.raw (.type "bytes"))) [(.slice (.v 0) (some (.v 5)) (some (.bin .Add (.v 5) (.v 6))))] []), .expr (.aI (.v 3) "append" [(.bin .Add (.v 7) (.call (.ah (.raw (.type "bytes"))) [(.bin .Sub (.v 6) (.call (.ah (.raw (.builtin "len"))) [(.v 7)] []))] []))])] []],
  .ret (some (.v 3))]⟩
noncomputable def QE:Fn:=⟨2,2,[
  .ret (some (.slice (.aI (.ah (.bytes [])) "join" [(.v 0)]) none (some (.v 1))))]⟩
noncomputable def QF:Fn:=⟨1,1,[
  .ret (some (.ite (.cmp .Gt (.v 0) (.ah (.int 127))) (.bin .BitXor (.bin .LShift (.v 0) (.ah (.int 1))) (.ah (.int 285))) (.bin .LShift (.v 0) (.ah (.int 1)))))]⟩
noncomputable def QG:Fn:=⟨2,3,[
  .s (.v 2) (.ah (.int 0)),
  .jh (.cmp .Gt (.v 1) (.ah (.int 0))) [.ifs (.cmp .Eq (.bin .BitAnd (.v 1) (.ah (.int 1))) (.ah (.int 1))) [.s (.v 2) (.bin .BitXor (.v 2) (.v 0))] [], .dY [(.v 0),(.v 1)] (.tuple [(.call (.ah Hb) [(.v 0)] []),(.bin .RShift (.v 1) (.ah (.int 1)))])],
  .ret (some (.v 2))]⟩
noncomputable def QH:Fn:=⟨2,3,[
  .s (.v 2) (.ah (.int 1)),
  .jh (.cmp .Gt (.v 1) (.ah (.int 0))) [.ifs (.cmp .Eq (.bin .BitAnd (.v 1) (.ah (.int 1))) (.ah (.int 1))) [.s (.v 2) (.call (.ah yt) [(.v 2),(.v 0)] [])] [], .dY [(.v 0),(.v 1)] (.tuple [(.call (.ah yt) [(.v 0),(.v 0)] []),(.bin .RShift (.v 1) (.ah (.int 1)))])],
  .ret (some (.v 2))]⟩
noncomputable def QI:Fn:=⟨1,1,[
  .ifs (.cmp .Eq (.v 0) (.ah (.int 0))) [.fail] [],
  .ret (some (.call (.ah BQ) [(.v 0),(.ah (.int 254))] []))]⟩
noncomputable def QJ:Fn:=⟨1,1,[
  .ret (some (.call (.ah (.raw (.type "bytes"))) [(.comp (.ite (.cmp .Gt (.v 2) (.ah (.int 127))) (.bin .BitXor (.bin .LShift (.v 2) (.ah (.int 1))) (.ah (.int 285))) (.bin .LShift (.v 2) (.ah (.int 1)))) [2] false (.val (.v 0)) none 2)] []))]⟩
noncomputable def QK:Fn:=⟨2,2,[
  .ifs (.cmp .Lt (.call (.ah (.raw (.builtin "len"))) [(.v 0)] []) (.call (.ah (.raw (.builtin "len"))) [(.v 1)] [])) [.dY [(.v 0),(.v 1)] (.tuple [(.v 1),(.v 0)])] [],
  .ret (some (.bin .Add (.call (.ah (.raw (.type "bytes"))) [(.comp (.bin .BitXor (.v 3) (.v 4)) [3,4] true (.zip [(.v 0),(.v 1)]) none 3)] []) (.call (.ah (.raw (.type "bytes"))) [(.slice (.v 0) (some (.call (.ah (.raw (.builtin "len"))) [(.v 1)] [])) none)] [])))]⟩
noncomputable def QL:Fn:=⟨2,3,[
  .s (.v 2) (.call (.ah (.raw (.type "bytes"))) [(.call (.ah (.raw (.builtin "len"))) [(.v 0)] [])] []),
  .jh (.cmp .Gt (.v 1) (.ah (.int 0))) [.ifs (.cmp .Eq (.bin .BitAnd (.v 1) (.ah (.int 1))) (.ah (.int 1))) [.s (.v 2) (.call (.ah vp) [(.v 2),(.v 0)] [])] [], .dY [(.v 0),(.v 1)] (.tuple [(.call (.ah BR) [(.v 0)] []),(.bin .RShift (.v 1) (.ah (.int 1)))])],
  .ret (some (.v 2))]⟩
noncomputable def QM:Fn:=⟨1,9,[
  .s (.v 1) (.call (.ah (.raw (.builtin "len"))) [(.v 0)] []),
  .s (.v 2) (.comp (.call (.ah (.raw (.type "list"))) [(.v 10)] []) [10] false (.val (.v 0)) none 2),
  .s (.v 5) (.comp (.comp (.call (.ah (.raw (.type "int"))) [(.cmp .Eq (.v 12) (.v 10))] []) [12] false (.range [(.v 1)]) none 2) [10] false (.range [(.v 1)]) none 2),
  .loop [3] false (.range [(.v 1)]) [.s (.v 6) (.comp (.v 10) [10] false (.range [(.v 3),(.v 1)]) (some (.cmp .NotEq (.sub (.sub (.v 2) (.v 10)) (.v 3)) (.ah (.int 0)))) 2), .ifs (.cmp .Eq (.v 6) (.list [])) [.fail] [], .s (.v 7) (.sub (.v 6) (.ah (.int 0))), .dY [(.sub (.v 2) (.v 3)),(.sub (.v 2) (.v 7))] (.tuple [(.sub (.v 2) (.v 7)),(.sub (.v 2) (.v 3))]), .dY [(.sub (.v 5) (.v 3)),(.sub (.v 5) (.v 7))] (.tuple [(.sub (.v 5) (.v 7)),(.sub (.v 5) (.v 3))]), .s (.v 8) (.call (.ah Hc) [(.sub (.sub (.v 2) (.v 3)) (.v 3))] []), .dY [(.sub (.v 2) (.v 3)),(.sub (.v 5) (.v 3))] (.tuple [(.call (.ah vq) [(.sub (.v 2) (.v 3)),(.v 8)] []),(.call (.ah vq) [(.sub (.v 5) (.v 3)),(.v 8)] [])]), .loop [4] false (.range [(.v 1)]) [.ifs (.cmp .NotEq (.v 4) (.v 3)) [.s (.v 8) (.sub (.sub (.v 2) (.v 4)) (.v 3)), .s (.sub (.v 2) (.v 4)) (.call (.ah BU) [(.sub (.v 2) (.v 4)),(.call (.ah vq) [(.sub (.v 2) (.v 3)),(.v 8)] [])] []), .s (.sub (.v 5) (.v 4)) (.call (.ah BU) [(.sub (.v 5) (.v 4)),(.call (.ah vq) [(.sub (.v 5) (.v 3)),(.v 8)] [])] [])] []]],
  .ret (some (.v 5))]⟩
noncomputable def QN:Fn:=⟨2,2,[
  .ret (some (.comp (.call (.ah yt) [(.v 3),(.v 1)] []) [3] false (.val (.v 0)) none 2))]⟩
noncomputable def QO:Fn:=⟨2,2,[
  .ret (some (.comp (.bin .BitXor (.v 3) (.v 4)) [3,4] true (.zip [(.v 0),(.v 1)]) none 3))]⟩
noncomputable def QP:Fn:=⟨2,5,[
  .s (.v 2) (.ah (.bytes [])),
  .loop [3] false (.val (.v 0)) [.loop [4] false (.range [(.v 1)]) [.s (.v 2) (.call (.ah BR) [(.v 2)] [])], .s (.v 2) (.call (.ah vp) [(.v 2),(.v 3)] [])],
  .ret (some (.v 2))]⟩
noncomputable def QQ:Fn:=⟨2,2,[
  .ret (some (.comp (.call (.ah He) [(.v 0),(.v 3)] []) [3] false (.range [(.v 1)]) none 2))]⟩
noncomputable def QR:Fn:=⟨3,3,[
  .ret (some (.call (.ah BQ) [(.ah (.int 2)),(.bin .Mult (.v 0) (.bin .Sub (.bin .Sub (.v 2) (.ah (.int 1))) (.v 1)))] []))]⟩
noncomputable def QS:Fn:=⟨4,7,[
  .s (.v 4) (.v 3),
  .loop [5,6] true (.enum (.v 0)) [.ifs (.cmp .NotIn (.v 5) (.v 1)) [.s (.v 4) (.call (.ah vp) [(.v 4),(.call (.ah BS) [(.v 6),(.call (.ah BW) [(.v 2),(.v 5),(.call (.ah (.raw (.builtin "len"))) [(.v 0)] [])] [])] [])] [])] []],
  .ret (some (.v 4))]⟩
noncomputable def QT:Fn:=⟨3,12,[
  .s (.v 3) (.slice (.call (.ah (.raw (.builtin "sorted"))) [(.v 2)] []) none (some (.call (.ah (.raw (.builtin "len"))) [(.v 1)] []))),
  .ifs (.cmp .Lt (.call (.ah (.raw (.builtin "len"))) [(.v 3)] []) (.call (.ah (.raw (.builtin "len"))) [(.v 1)] [])) [.fail] [],
  .s (.v 5) (.comp (.comp (.call (.ah BW) [(.v 13),(.v 15),(.call (.ah (.raw (.builtin "len"))) [(.v 0)] [])] []) [15] false (.val (.v 1)) none 2) [13] false (.val (.v 3)) none 2),
  .s (.v 6) (.comp (.call (.ah Hg) [(.v 0),(.v 1),(.v 13),(.sub (.v 2) (.v 13))] []) [13] false (.val (.v 3)) none 2),
  .s (.v 7) (.list []),
  .loop [4,8] true (.zip [(.v 1),(.call (.ah Hd) [(.v 5)] [])]) [.s (.v 9) (.ah (.bytes [])), .loop [10,11] true (.zip [(.v 8),(.v 6)]) [.s (.v 9) (.call (.ah vp) [(.v 9),(.call (.ah BS) [(.v 11),(.v 10)] [])] [])], .expr (.aI (.v 7) "append" [(.slice (.v 9) none (some (.call (.ah (.raw (.builtin "len"))) [(.sub (.v 0) (.v 4))] [])))])],
  .ret (some (.v 7))]⟩
noncomputable def QU:Fn:=⟨3,8,[
  .s (.v 4) (.comp (.call (.ah (.raw (.type "bytes"))) [(.v 9)] []) [9] false (.val (.slice (.v 0) (some (.v 2)) none)) none 2),
  .s (.v 5) (.call (.ah (.raw (.type "dict"))) [(.comp (.tuple [(.v 9),(.call (.ah (.raw (.type "bytes"))) [(.sub (.v 0) (.v 9))] [])]) [9] false (.range [(.v 2)]) (some (.cmp .NotIn (.v 9) (.v 1))) 2)] []),
  .s (.v 7) (.comp (.bin .Sub (.v 9) (.v 2)) [9] false (.val (.call (.ah (.raw (.builtin "sorted"))) [(.v 1)] [])) (some (.cmp .GtE (.v 9) (.v 2))) 2),
  .loop [6,3] true (.zip [(.v 7),(.call (.ah Hh) [(.v 4),(.v 7),(.v 5)] [])]) [.s (.sub (.v 4) (.v 6)) (.v 3)],
  .ret (some (.v 4))]⟩
noncomputable def QV:Fn:=⟨3,9,[
  .s (.v 3) (.ite (.cmp .LtE (.call (.ah (.raw (.builtin "len"))) [(.v 1)] []) (.v 2)) (.list [(.call (.ah (.raw (.type "tuple"))) [(.v 1)] [])]) (.list [])),
  .s (.v 4) (.ah (.int 0)),
  .jh (.cmp .Lt (.v 4) (.call (.ah (.raw (.builtin "len"))) [(.v 3)] [])) [.s (.v 5) (.sub (.v 3) (.v 4)), .s (.v 7) (.comp (.v 10) [10] false (.val (.v 5)) (some (.cmp .NotIn (.v 10) (.v 1))) 2), .s (.v 8) (.ite (.cmp .NotEq (.v 7) (.list [])) (.bin .Add (.call (.ah (.raw (.builtin "max"))) [(.v 7)] []) (.ah (.int 1))) (.ah (.int 0))), .ifs (.cmp .Lt (.call (.ah (.raw (.builtin "len"))) [(.v 5)] []) (.v 2)) [.loop [6] false (.range [(.v 8),(.v 0)]) [.ifs (.cmp .NotIn (.v 6) (.v 1)) [.expr (.aI (.v 3) "append" [(.bin .Add (.v 5) (.tuple [(.v 6)]))])] []]] [], .s (.v 4) (.bin .Add (.v 4) (.ah (.int 1)))],
  .ret (some (.v 3))]⟩
noncomputable def QW:Fn:=⟨5,5,[
  .s (.a (.v 0) "children") (.v 1),
  .s (.a (.v 0) "parity") (.v 2),
  .s (.a (.v 0) "guid") (.v 3),
  .s (.a (.v 0) "shape") (.v 4)]⟩
noncomputable def QX:Fn:=⟨1,2,[
  .s (.v 1) (.comp (.aI (.v 3) "sectors" []) [3] false (.val (.a (.v 0) "children")) (some (.cmp .IsNot (.a (.v 3) "disk") (.ah .none))) 2),
  .ret (some (.ite (.cmp .Gt (.call (.ah (.raw (.builtin "len"))) [(.v 1)] []) (.ah (.int 0))) (.bin .Mult (.call (.ah (.raw (.builtin "min"))) [(.v 1)] []) (.call (.ah (.raw (.builtin "len"))) [(.a (.v 0) "children")] [])) (.ah (.int 0))))]⟩
noncomputable def QY:Fn:=⟨2,2,[
  .ret (some (.call (.ah BN) [(.v 1),(.call (.ah (.raw (.builtin "len"))) [(.a (.v 0) "children")] []),(.a (.v 0) "parity"),(.a (.v 0) "shape")] []))]⟩
noncomputable def QZ:Fn:=⟨3,3,[
  .ret (some (.call (.ah BO) [(.v 1),(.v 2),(.call (.ah (.raw (.builtin "len"))) [(.a (.v 0) "children")] []),(.a (.v 0) "parity"),(.a (.v 0) "shape")] []))]⟩
noncomputable def Q0:Fn:=⟨3,4,[
  .s (.v 3) (.call (.ah Ha) [(.v 1),(.v 2),(.a (.v 0) "shape")] []),
  .ret (some (.bin .Add (.call (.ah Hf) [(.v 3),(.a (.v 0) "parity")] []) (.v 3)))]⟩
noncomputable def Q3:Fn:=⟨4,8,[
  .s (.v 4) (.aI (.v 0) "columns" [(.v 1),(.call (.ah (.raw (.builtin "len"))) [(.v 2)] [])]),
  .s (.v 5) (.ah (.int 0)),
  .loop [6,7] true (.zip [(.v 4),(.aI (.v 0) "whole" [(.v 2),(.v 4)])]) [.ifs (.not (.val (.aI (.sub (.a (.v 0) "children") (.a (.v 6) "child")) "write" [(.a (.v 6) "row"),(.v 7),(.v 3)]))) [.s (.v 5) (.bin .Add (.v 5) (.ah (.int 1)))] []],
  .ret (some (.cmp .LtE (.v 5) (.a (.v 0) "parity")))]⟩
noncomputable def Q4:Fn:=⟨2,3,[
  .s (.v 2) (.a (.a (.v 0) "shape") "sector"),
  .ret (some (.comp (.aI (.sub (.a (.v 0) "children") (.a (.v 4) "child")) "read" [(.a (.v 4) "row"),(.bin .Mult (.a (.v 4) "many") (.v 2))]) [4] false (.val (.v 1)) none 2))]⟩
noncomputable def Q5:Fn:=⟨4,7,[
  .s (.v 4) (.aI (.v 0) "columns" [(.v 1),(.v 2)]),
  .s (.v 5) (.aI (.v 0) "held" [(.slice (.v 4) (some (.a (.v 0) "parity")) none)]),
  .ifs (.cmp .NotIn (.ah .none) (.v 5)) [.s (.v 6) (.call (.ah BP) [(.v 5),(.v 2)] []), .ifs (.val (.call (.v 3) [(.v 6)] [])) [.ret (some (.tuple [(.v 6),(.list [])]))] []] [],
  .ret (some (.aI (.v 0) "searched" [(.v 4),(.bin .Add (.aI (.v 0) "held" [(.slice (.v 4) none (some (.a (.v 0) "parity")))]) (.v 5)),(.v 2),(.v 3)]))]⟩
noncomputable def Q6:Fn:=⟨4,5,[
  .s (.v 4) (.aI (.v 0) "columns" [(.v 1),(.v 2)]),
  .ret (some (.aI (.v 0) "searched" [(.v 4),(.aI (.v 0) "held" [(.v 4)]),(.v 2),(.v 3)]))]⟩
noncomputable def Q7:Fn:=⟨5,9,[
  .s (.v 5) (.comp (.v 10) [10,11] true (.enum (.v 2)) (some (.cmp .Is (.v 11) (.ah .none))) 3),
  .s (.v 6) (.comp (.ite (.cmp .Is (.v 11) (.ah .none)) (.call (.ah (.raw (.type "bytes"))) [(.bin .Mult (.a (.v 10) "many") (.a (.a (.v 0) "shape") "sector"))] []) (.v 11)) [10,11] true (.zip [(.v 1),(.v 2)]) none 3),
  .loop [7] false (.val (.call (.ah Hj) [(.call (.ah (.raw (.builtin "len"))) [(.v 1)] []),(.v 5),(.a (.v 0) "parity")] [])) [.s (.v 8) (.call (.ah BP) [(.call (.ah Hi) [(.v 6),(.v 7),(.a (.v 0) "parity")] []),(.v 3)] []), .ifs (.val (.call (.v 4) [(.v 8)] [])) [.ret (some (.tuple [(.v 8),(.aI (.v 0) "wrong_of" [(.v 1),(.v 2),(.v 8)])]))] []],
  .ret (some (.tuple [(.ah .none),(.list [])]))]⟩
noncomputable def Q8:Fn:=⟨4,8,[
  .s (.v 4) (.list []),
  .loop [5,6,7] true (.zip [(.v 1),(.v 2),(.aI (.v 0) "whole" [(.v 3),(.v 1)])]) [.ifs (.bool true [(.cmp .IsNot (.v 6) (.ah .none)),(.cmp .NotEq (.v 6) (.v 7))]) [.expr (.aI (.v 4) "append" [(.a (.v 5) "child")])] []],
  .ret (some (.call (.ah (.raw (.builtin "sorted"))) [(.v 4)] []))]⟩
noncomputable def Q9:Fn:=⟨4,8,[
  .dY [(.v 4),(.v 5)] (.tuple [(.aI (.v 0) "columns" [(.v 1),(.call (.ah (.raw (.builtin "len"))) [(.v 2)] [])]),(.ah (.int 0))]),
  .loop [6,7] true (.zip [(.v 4),(.aI (.v 0) "whole" [(.v 2),(.v 4)])]) [.ifs (.cmp .In (.a (.v 6) "child") (.v 3)) [.s (.v 5) (.bin .Add (.v 5) (.call (.ah (.raw (.type "int"))) [(.aI (.sub (.a (.v 0) "children") (.a (.v 6) "child")) "write" [(.a (.v 6) "row"),(.v 7),(.ah (.int 0))])] []))] []],
  .ret (some (.v 5))]⟩
noncomputable def Ra:Fn:=⟨1,2,[
  .loop [1] false (.val (.a (.v 0) "children")) [.expr (.aI (.v 1) "flush" [])]]⟩
noncomputable def Rb:Fn:=⟨1,1,[
  .ret (some (.call (.ah (.raw (.type "list"))) [(.a (.v 0) "children")] []))]⟩
noncomputable def Rc:Fn:=⟨3,3,[
  .s (.a (.v 0) "sector") (.a (.v 2) "sector"),
  .s (.a (.v 0) "octets") (.call (.ah (.raw (.type "bytearray"))) [(.bin .Mult (.v 1) (.a (.v 2) "sector"))] []),
  .s (.a (.v 0) "waiting") (.list []),
  .s (.a (.v 0) "is_out") (.ah (.bool false)),
  .s (.a (.v 0) "reads") (.ah (.int 0)),
  .s (.a (.v 0) "writes") (.ah (.int 0))]⟩
noncomputable def Rd:Fn:=⟨1,1,[
  .ret (some (.bin .FloorDiv (.call (.ah (.raw (.builtin "len"))) [(.a (.v 0) "octets")] []) (.a (.v 0) "sector")))]⟩
noncomputable def Re:Fn:=⟨3,3,[
  .ifs (.bool false [(.cmp .Lt (.v 1) (.ah (.int 0))),(.cmp .Lt (.v 2) (.ah (.int 0))),(.cmp .Gt (.bin .Add (.v 1) (.v 2)) (.aI (.v 0) "sectors" []))]) [.fail] []]⟩
noncomputable def Rf:Fn:=⟨3,7,[
  .expr (.aI (.v 0) "want" [(.v 1),(.v 2)]),
  .ifs (.val (.a (.v 0) "is_out")) [.ret (some (.ah .none))] [],
  .s (.a (.v 0) "reads") (.bin .Add (.a (.v 0) "reads") (.v 2)),
  .s (.v 3) (.slice (.a (.v 0) "octets") (some (.bin .Mult (.v 1) (.a (.v 0) "sector"))) (some (.bin .Mult (.bin .Add (.v 1) (.v 2)) (.a (.v 0) "sector")))),
  .loop [4,5] true (.val (.a (.v 0) "waiting")) [.ifs (.kc .LtE .Lt (.v 1) (.v 4) (.bin .Add (.v 1) (.v 2))) [.s (.v 6) (.bin .Mult (.bin .Sub (.v 4) (.v 1)) (.a (.v 0) "sector")), .s (.slice (.v 3) (some (.v 6)) (some (.bin .Add (.v 6) (.a (.v 0) "sector")))) (.v 5)] []],
  .ret (some (.call (.ah (.raw (.type "bytes"))) [(.v 3)] []))]⟩
noncomputable def Rg:Fn:=⟨3,5,[
  .ifs (.cmp .NotEq (.bin .Mod (.call (.ah (.raw (.builtin "len"))) [(.v 2)] []) (.a (.v 0) "sector")) (.ah (.int 0))) [.fail] [],
  .s (.v 3) (.bin .FloorDiv (.call (.ah (.raw (.builtin "len"))) [(.v 2)] []) (.a (.v 0) "sector")),
  .expr (.aI (.v 0) "want" [(.v 1),(.v 3)]),
  .ifs (.val (.a (.v 0) "is_out")) [.ret (some (.ah (.bool false)))] [],
  .loop [4] false (.range [(.v 3)]) [.expr (.aI (.a (.v 0) "waiting") "append" [(.tuple [(.bin .Add (.v 1) (.v 4)),(.call (.ah (.raw (.type "bytes"))) [(.slice (.v 2) (some (.bin .Mult (.v 4) (.a (.v 0) "sector"))) (some (.bin .Mult (.bin .Add (.v 4) (.ah (.int 1))) (.a (.v 0) "sector"))))] [])])])],
  .s (.a (.v 0) "writes") (.bin .Add (.a (.v 0) "writes") (.v 3)),
  .ret (some (.ah (.bool true)))]⟩
noncomputable def Rh:Fn:=⟨3,3,[
  .s (.slice (.a (.v 0) "octets") (some (.bin .Mult (.v 1) (.a (.v 0) "sector"))) (some (.bin .Mult (.bin .Add (.v 1) (.ah (.int 1))) (.a (.v 0) "sector")))) (.v 2)]⟩
noncomputable def Ri:Fn:=⟨1,3,[
  .ifs (.val (.a (.v 0) "is_out")) [.ret (some (.ah (.bool false)))] [],
  .loop [1,2] true (.val (.a (.v 0) "waiting")) [.expr (.aI (.v 0) "put" [(.v 1),(.v 2)])],
  .s (.a (.v 0) "waiting") (.list []),
  .ret (some (.ah (.bool true)))]⟩
noncomputable def Rj:Fn:=⟨1,1,[
  .ret (some (.call (.ah (.raw (.builtin "len"))) [(.a (.v 0) "waiting")] []))]⟩
noncomputable def BZ:Fn:=⟨12,12,[
  .s (.a (.v 0) "sector") (.v 1),
  .s (.a (.v 0) "slab") (.v 2),
  .s (.a (.v 0) "record") (.v 3),
  .s (.a (.v 0) "fan") (.v 4),
  .s (.a (.v 0) "dnodes") (.v 5),
  .s (.a (.v 0) "ring") (.v 6),
  .s (.a (.v 0) "defer") (.v 7),
  .s (.a (.v 0) "most_record") (.v 8),
  .s (.a (.v 0) "uber") (.v 9),
  .s (.a (.v 0) "config") (.v 10),
  .s (.a (.v 0) "zap") (.v 11)]⟩
noncomputable def Rk:Fn:=⟨2,2,[
  .ret (some (.bin .Mult (.bin .FloorDiv (.bin .Sub (.bin .Add (.v 0) (.v 1)) (.ah (.int 1))) (.v 1)) (.v 1)))]⟩
noncomputable def Rl:Fn:=⟨2,2,[
  .ret (some (.bin .FloorDiv (.bin .Sub (.bin .Add (.v 0) (.v 1)) (.ah (.int 1))) (.v 1)))]⟩
noncomputable def Rm:Fn:=⟨1,1,[
  .ret (some (.call (.ah yu) [(.a (.v 0) "uber"),(.a (.v 0) "sector")] []))]⟩
noncomputable def Rn:Fn:=⟨1,1,[
  .ret (some (.call (.ah yu) [(.a (.v 0) "config"),(.a (.v 0) "sector")] []))]⟩
noncomputable def Ro:Fn:=⟨1,1,[
  .ret (some (.bin .Add (.call (.ah Hp) [(.v 0)] []) (.bin .Mult (.a (.v 0) "ring") (.call (.ah Ho) [(.v 0)] []))))]⟩
noncomputable def Rp:Fn:=⟨2,3,[
  .s (.v 2) (.bin .Sub (.aI (.v 0) "sectors" []) (.bin .Mult (.ah (.int 2)) (.call (.ah BX) [(.v 1)] []))),
  .ifs (.cmp .Lt (.v 2) (.ah (.int 0))) [.fail] [],
  .ret (some (.v 2))]⟩
noncomputable def B0:Fn:=⟨2,4,[
  .s (.a (.v 0) "rows") (.list []),
  .loop [2,3] true (.val (.v 1)) [.expr (.aI (.v 0) "add" [(.v 2),(.bin .Sub (.v 3) (.v 2))])]]⟩
noncomputable def Rq:Fn:=⟨2,5,[
  .dY [(.v 2),(.v 3)] (.tuple [(.ah (.int 0)),(.call (.ah (.raw (.builtin "len"))) [(.a (.v 0) "rows")] [])]),
  .jh (.cmp .Lt (.v 2) (.v 3)) [.s (.v 4) (.bin .FloorDiv (.bin .Add (.v 2) (.v 3)) (.ah (.int 2))), .ifs (.cmp .LtE (.sub (.sub (.a (.v 0) "rows") (.v 4)) (.ah (.int 0))) (.v 1)) [.s (.v 2) (.bin .Add (.v 4) (.ah (.int 1)))] [.s (.v 3) (.v 4)]],
  .ret (some (.v 2))]⟩
noncomputable def Rr:Fn:=⟨3,3,[
  .ifs (.bool false [(.cmp .Lt (.v 1) (.ah (.int 0))),(.cmp .Lt (.v 2) (.ah (.int 0)))]) [.fail] []]⟩
noncomputable def Rs:Fn:=⟨3,4,[
  .expr (.aI (.v 0) "want" [(.v 1),(.v 2)]),
  .s (.v 3) (.bin .Sub (.aI (.v 0) "behind" [(.v 1)]) (.ah (.int 1))),
  .ret (some (.bool false [(.cmp .Eq (.v 2) (.ah (.int 0))),(.bool true [(.cmp .GtE (.v 3) (.ah (.int 0))),(.cmp .LtE (.bin .Add (.v 1) (.v 2)) (.sub (.sub (.a (.v 0) "rows") (.v 3)) (.ah (.int 1))))])]))]⟩
noncomputable def Rt:Fn:=⟨3,4,[
  .expr (.aI (.v 0) "want" [(.v 1),(.v 2)]),
  .s (.v 3) (.bin .Sub (.aI (.v 0) "behind" [(.bin .Sub (.bin .Add (.v 1) (.v 2)) (.ah (.int 1)))]) (.ah (.int 1))),
  .ret (some (.bool true [(.cmp .Gt (.v 2) (.ah (.int 0))),(.cmp .GtE (.v 3) (.ah (.int 0))),(.cmp .Gt (.sub (.sub (.a (.v 0) "rows") (.v 3)) (.ah (.int 1))) (.v 1))]))]⟩
noncomputable def Ru:Fn:=⟨3,3,[
  .ifs (.val (.aI (.v 0) "some" [(.v 1),(.v 2)])) [.fail] [],
  .ifs (.cmp .Gt (.v 2) (.ah (.int 0))) [.expr (.aI (.v 0) "put" [(.v 1),(.v 2)])] []]⟩
noncomputable def Rv:Fn:=⟨3,6,[
  .expr (.aI (.v 0) "want" [(.v 1),(.v 2)]),
  .ifs (.cmp .Eq (.v 2) (.ah (.int 0))) [.ret none] [],
  .dY [(.v 3),(.v 4)] (.tuple [(.bin .Add (.v 1) (.v 2)),(.aI (.v 0) "behind" [(.v 1)])]),
  .ifs (.bool true [(.cmp .Gt (.v 4) (.ah (.int 0))),(.cmp .GtE (.sub (.sub (.a (.v 0) "rows") (.bin .Sub (.v 4) (.ah (.int 1)))) (.ah (.int 1))) (.v 1))]) [.s (.v 4) (.bin .Sub (.v 4) (.ah (.int 1)))] [],
  .s (.v 5) (.aI (.v 0) "behind" [(.v 3)]),
  .ifs (.cmp .Lt (.v 4) (.v 5)) [.dY [(.v 1),(.v 3)] (.tuple [(.call (.ah (.raw (.builtin "min"))) [(.v 1),(.sub (.sub (.a (.v 0) "rows") (.v 4)) (.ah (.int 0)))] []),(.call (.ah (.raw (.builtin "max"))) [(.v 3),(.sub (.sub (.a (.v 0) "rows") (.bin .Sub (.v 5) (.ah (.int 1)))) (.ah (.int 1)))] [])])] [],
  .s (.slice (.a (.v 0) "rows") (some (.v 4)) (some (.v 5))) (.list [(.tuple [(.v 1),(.v 3)])])]⟩
noncomputable def Rx:Fn:=⟨2,2,[
  .ret (some (.bin .Add (.call (.ah (.raw (.type "bytes"))) [(.v 0)] []) (.call (.ah (.raw (.type "bytes"))) [(.bin .Sub (.call (.ah Hn) [(.call (.ah (.raw (.builtin "len"))) [(.v 0)] []),(.a (.v 1) "sector")] []) (.call (.ah (.raw (.builtin "len"))) [(.v 0)] []))] [])))]⟩
noncomputable def Ry:Fn:=⟨4,4,[
  .s (.a (.v 0) "disk") (.v 1),
  .s (.a (.v 0) "guid") (.v 2),
  .s (.a (.v 0) "shape") (.v 3),
  .s (.a (.v 0) "missing") (.call (.ah Hr) [] [])]⟩
noncomputable def Rz:Fn:=⟨1,1,[
  .ret (some (.bool true [(.cmp .IsNot (.a (.v 0) "disk") (.ah .none)),(.not (.a (.a (.v 0) "disk") "is_out"))]))]⟩
noncomputable def RA:Fn:=⟨1,1,[
  .ret (some (.ite (.cmp .Is (.a (.v 0) "disk") (.ah .none)) (.ah (.int 0)) (.call (.ah Hq) [(.a (.v 0) "disk"),(.a (.v 0) "shape")] [])))]⟩
noncomputable def RB:Fn:=⟨3,3,[
  .ifs (.bool false [(.cmp .Lt (.v 1) (.ah (.int 0))),(.cmp .Lt (.v 2) (.ah (.int 0))),(.cmp .Gt (.bin .Add (.v 1) (.v 2)) (.aI (.v 0) "sectors" []))]) [.fail] [],
  .ret (some (.bin .Add (.call (.ah BX) [(.a (.v 0) "shape")] []) (.v 1)))]⟩
noncomputable def RC:Fn:=⟨3,5,[
  .ifs (.not (.val (.aI (.v 0) "is_there" []))) [.ret (some (.ah .none))] [],
  .s (.v 3) (.call (.ah yu) [(.v 2),(.a (.a (.v 0) "shape") "sector")] []),
  .s (.v 4) (.aI (.a (.v 0) "disk") "read" [(.aI (.v 0) "place_of" [(.v 1),(.v 3)]),(.v 3)]),
  .ret (some (.ite (.cmp .Is (.v 4) (.ah .none)) (.ah .none) (.call (.ah (.raw (.type "bytes"))) [(.slice (.v 4) none (some (.v 2)))] [])))]⟩
noncomputable def RD:Fn:=⟨4,5,[
  .ifs (.not (.val (.aI (.v 0) "is_there" []))) [.expr (.aI (.v 0) "note_missing" [(.v 3)]), .ret (some (.ah (.bool false)))] [],
  .s (.v 4) (.call (.ah Hs) [(.v 2),(.a (.v 0) "shape")] []),
  .expr (.aI (.a (.v 0) "disk") "write" [(.aI (.v 0) "place_of" [(.v 1),(.bin .FloorDiv (.call (.ah (.raw (.builtin "len"))) [(.v 4)] []) (.a (.a (.v 0) "shape") "sector"))]),(.v 4)]),
  .ret (some (.ah (.bool true)))]⟩
noncomputable def RE:Fn:=⟨1,1,[
  .ifs (.val (.aI (.v 0) "is_there" [])) [.expr (.aI (.a (.v 0) "disk") "flush" [])] []]⟩
noncomputable def RF:Fn:=⟨2,2,[
  .ifs (.bool true [(.cmp .Gt (.v 1) (.ah (.int 0))),(.not (.val (.aI (.a (.v 0) "missing") "has" [(.v 1),(.ah (.int 1))])))]) [.expr (.aI (.a (.v 0) "missing") "add" [(.v 1),(.ah (.int 1))])] []]⟩
noncomputable def RG:Fn:=⟨2,2,[
  .ret (some (.not (.aI (.a (.v 0) "missing") "has" [(.v 1),(.ah (.int 1))])))]⟩
noncomputable def RH:Fn:=⟨2,2,[
  .ret (some (.ite (.cmp .Lt (.v 1) (.call (.ah (.raw (.builtin "len"))) [(.v 0)] [])) (.sub (.v 0) (.v 1)) (.bin .Add (.bin .Mult (.ah (.int 61)) (.v 1)) (.ah (.int 4)))))]⟩
noncomputable def RI:Fn:=⟨5,7,[
  .s (.v 5) (.list []),
  .loop [6] false (.range [(.bin .Add (.v 1) (.bin .Mult (.v 3) (.neg (.bin .FloorDiv (.neg (.v 1)) (.bin .Sub (.v 2) (.v 3))))))]) [.ifs (.cmp .Lt (.v 6) (.v 2)) [.expr (.aI (.v 5) "append" [(.list [(.bin .Mod (.bin .Add (.v 0) (.v 6)) (.v 2)),(.bin .FloorDiv (.bin .Add (.v 0) (.v 6)) (.v 2)),(.ah (.int 0))])])] [], .aug (.sub (.v 5) (.bin .Mod (.v 6) (.v 2))) (.ah (.int 2)) .Add (.ah (.int 1))],
  .ifs (.val (.v 4)) [.dY [(.slice (.sub (.v 5) (.ah (.int 0))) none (some (.ah (.int 2)))),(.slice (.sub (.v 5) (.ah (.int 1))) none (some (.ah (.int 2))))] (.tuple [(.slice (.sub (.v 5) (.ah (.int 1))) none (some (.ah (.int 2)))),(.slice (.sub (.v 5) (.ah (.int 0))) none (some (.ah (.int 2))))])] [],
  .ret (some (.v 5))]⟩
noncomputable def RJ:Fn:=⟨4,8,[
  .dY [(.v 4),(.v 5)] (.tuple [(.list []),(.list [])]),
  .loop [6] false (.range [(.bin .Mod (.v 1) (.bin .Add (.v 2) (.ah (.int 2))))]) [.s (.v 7) (.sub (.sub (.v 0) (.bin .Mod (.bin .FloorDiv (.bin .FloorDiv (.v 1) (.ah (.int 7))) (.bin .Pow (.ah (.int 5)) (.v 6))) (.call (.ah (.raw (.builtin "len"))) [(.v 0)] []))) (.ah (.int 0))), .ifs (.cmp .NotIn (.v 7) (.bin .Add (.v 4) (.v 5))) [.ifs (.bool true [(.cmp .Eq (.bin .Mod (.bin .FloorDiv (.v 1) (.ah (.int 3))) (.ah (.int 2))) (.bin .Mod (.v 6) (.ah (.int 2)))),(.cmp .Lt (.call (.ah (.raw (.builtin "len"))) [(.v 4)] []) (.v 3)),(.cmp .LtE (.bin .Mod (.v 1) (.bin .Add (.v 2) (.ah (.int 2)))) (.v 2))]) [.expr (.aI (.v 4) "append" [(.v 7)])] [.expr (.aI (.v 5) "append" [(.v 7)])]] []],
  .ret (some (.tuple [(.call (.ah (.raw (.builtin "sorted"))) [(.v 4)] []),(.call (.ah (.raw (.builtin "sorted"))) [(.v 5)] [])]))]⟩
noncomputable def RK:Fn:=⟨3,6,[
  .loop [3,4,5] true (.val (.v 1)) [.ifs (.cmp .In (.v 3) (.v 2)) [.expr (.aI (.sub (.v 0) (.v 3)) "write" [(.v 4),(.call (.ah (.raw (.type "bytes"))) [(.comp (.bin .Sub (.ah (.int 255)) (.v 7)) [7] false (.val (.aI (.sub (.v 0) (.v 3)) "read" [(.v 4),(.bin .Mult (.ah (.int 4)) (.v 5))])) none 2)] []),(.ah (.int 0))])] []]]⟩
noncomputable def RL:Fn:=⟨3,4,[
  .loop [3] false (.val (.v 1)) [.s (.a (.a (.sub (.v 0) (.v 3)) "disk") "is_out") (.v 2)]]⟩
noncomputable def B1:Fn:=⟨5,12,[
  .dY [(.v 5),(.v 6)] (.tuple [(.a (.v 0) "parity"),(.call (.ah (.raw (.builtin "len"))) [(.v 3)] [])]),
  .dY [(.v 7),(.v 8)] (.call (.ah Hv) [(.v 1),(.v 4),(.v 5),(.ite (.cmp .Lt (.call (.ah (.raw (.builtin "len"))) [(.a (.v 0) "children")] []) (.ah (.int 5))) (.ah (.int 2)) (.ah (.int 1)))] []),
  .expr (.call (.ah Hw) [(.a (.v 0) "children"),(.v 1),(.v 7)] []),
  .expr (.call (.ah vt) [(.a (.v 0) "children"),(.v 8),(.ah (.bool true))] []),
  .s (.v 9) (.ite (.cmp .LtE (.call (.ah (.raw (.builtin "len"))) [(.bin .Add (.v 7) (.v 8))] []) (.v 5)) (.tuple [(.v 3),(.v 7)]) (.tuple [(.ah .none),(.list [])])),
  .s (.v 10) (.call (.ah (.raw (.builtin "all"))) [(.comp (.cmp .NotIn (.sub (.v 13) (.ah (.int 0))) (.bin .Add (.v 7) (.v 8))) [13] false (.val (.slice (.v 1) (some (.v 5)) none)) none 2)] []),
  .ifs (.cmp .NotEq (.aI (.v 0) "read" [(.v 2),(.v 6),(.lam 3)]) (.ite (.val (.v 10)) (.tuple [(.v 3),(.list [])]) (.v 9))) [.ret (some (.ah (.bool false)))] [],
  .ifs (.cmp .NotEq (.aI (.v 0) "check" [(.v 2),(.v 6),(.lam 3)]) (.v 9)) [.ret (some (.ah (.bool false)))] [],
  .ifs (.bool true [(.cmp .IsNot (.sub (.v 9) (.ah (.int 0))) (.ah .none)),(.cmp .NotEq (.aI (.v 0) "mend" [(.v 2),(.v 3),(.v 7)]) (.call (.ah (.raw (.builtin "len"))) [(.v 7)] []))]) [.ret (some (.ah (.bool false)))] [],
  .s (.v 11) (.bool true [(.cmp .IsNot (.sub (.v 9) (.ah (.int 0))) (.ah .none)),(.cmp .Eq (.aI (.v 0) "check" [(.v 2),(.v 6),(.lam 3)]) (.tuple [(.v 3),(.list [])]))]),
  .expr (.call (.ah vt) [(.a (.v 0) "children"),(.v 8),(.ah (.bool false))] []),
  .ifs (.cmp .Is (.sub (.v 9) (.ah (.int 0))) (.ah .none)) [.ret (some (.cmp .Eq (.aI (.v 0) "check" [(.v 2),(.v 6),(.lam 3)]) (.tuple [(.v 3),(.list [])])))] [],
  .ret (some (.bool true [(.v 11),(.cmp .Eq (.aI (.v 0) "check" [(.v 2),(.v 6),(.lam 3)]) (.tuple [(.v 3),(.list [])]))]))]⟩
noncomputable def B2:Fn:=⟨5,9,[
  .s (.v 5) (.comp (.sub (.v 10) (.ah (.int 0))) [10] false (.val (.slice (.v 1) none (some (.bin .Add (.a (.v 0) "parity") (.bin .Mod (.v 4) (.ah (.int 2))))))) none 2),
  .expr (.call (.ah vt) [(.a (.v 0) "children"),(.v 5),(.ah (.bool true))] []),
  .s (.v 6) (.aI (.v 0) "write" [(.v 2),(.v 3),(.ah (.int 9))]),
  .ifs (.bool false [(.cmp .NotEq (.v 6) (.cmp .LtE (.call (.ah (.raw (.builtin "len"))) [(.v 5)] []) (.a (.v 0) "parity"))),(.cmp .NotEq (.comp (.aI (.v 10) "has" [(.ah (.int 9))]) [10] false (.val (.aI (.v 0) "leaves" [])) none 2) (.comp (.cmp .NotIn (.v 10) (.v 5)) [10] false (.range [(.call (.ah (.raw (.builtin "len"))) [(.a (.v 0) "children")] [])]) none 2))]) [.ret (some (.ah (.bool false)))] [],
  .expr (.call (.ah vt) [(.a (.v 0) "children"),(.v 5),(.ah (.bool false))] []),
  .expr (.aI (.v 0) "flush" []),
  .ifs (.not (.val (.v 6))) [.ret (some (.ah (.bool true)))] [],
  .dY [(.v 7),(.v 8)] (.aI (.v 0) "check" [(.v 2),(.call (.ah (.raw (.builtin "len"))) [(.v 3)] []),(.lam 3)]),
  .ifs (.bool false [(.cmp .NotEq (.v 7) (.v 3)),(.cmp .NotEq (.comp (.v 10) [10] false (.val (.v 8)) (some (.cmp .NotIn (.v 10) (.v 5))) 2) (.list [])),(.cmp .NotEq (.v 8) (.call (.ah (.raw (.builtin "sorted"))) [(.v 8)] []))]) [.ret (some (.ah (.bool false)))] [],
  .ifs (.cmp .NotEq (.aI (.v 0) "mend" [(.v 2),(.v 3),(.v 8)]) (.call (.ah (.raw (.builtin "len"))) [(.v 8)] [])) [.ret (some (.ah (.bool false)))] [],
  .ret (some (.cmp .Eq (.aI (.v 0) "check" [(.v 2),(.call (.ah (.raw (.builtin "len"))) [(.v 3)] []),(.lam 3)]) (.tuple [(.v 3),(.list [])])))]⟩
noncomputable def RM:Fn:=⟨2,3,[
  .s (.a (.sub (.a (.v 0) "children") (.ah (.int 0))) "disk") (.ah .none),
  .ifs (.cmp .NotEq (.aI (.v 0) "sectors" []) (.bin .Mult (.bin .Add (.bin .FloorDiv (.ah (.int 60)) (.v 1)) (.ah (.int 4))) (.v 1))) [.ret (some (.ah (.bool false)))] [],
  .loop [2] false (.val (.aI (.v 0) "leaves" [])) [.s (.a (.v 2) "disk") (.ah .none)],
  .ret (some (.cmp .Eq (.aI (.v 0) "sectors" []) (.ah (.int 0))))]⟩
noncomputable def lY:Fn:=⟨2,15,[
  .dY [(.v 2),(.v 3),(.v 4)] (.tuple [(.call (.ah tz) [(.v 0),(.v 1)] []),(.call (.ah tz) [(.v 0),(.bin .Add (.v 1) (.ah (.int 1)))] []),(.call (.ah tz) [(.v 0),(.bin .Add (.v 1) (.ah (.int 2)))] [])]),
  .s (.v 5) (.bin .Add (.ah (.int 2)) (.bin .Mod (.v 2) (.ah (.int 5)))),
  .dY [(.v 6),(.v 7),(.v 8)] (.tuple [(.bin .Add (.ah (.int 1)) (.bin .Mod (.bin .FloorDiv (.v 2) (.ah (.int 5))) (.call (.ah (.raw (.builtin "min"))) [(.ah (.int 3)),(.bin .Sub (.v 5) (.ah (.int 1)))] []))),(.bin .Add (.ah (.int 1)) (.bin .Mod (.v 3) (.ah (.int 28)))),(.bin .Mod (.bin .FloorDiv (.v 3) (.ah (.int 28))) (.ah (.int 20)))]),
  .s (.v 9) (.call (.ah Hm) [(.ah (.int 4)),(.ah (.int 8))] [(bd "ring",(.ah (.int 1))),(bd "uber",(.ah (.int 4))),(bd "config",(.ah (.int 4)))]),
  .s (.v 10) (.call (.ah Hk) [(.comp (.call (.ah Ht) [(.call (.ah Hl) [(.bin .Add (.bin .FloorDiv (.ah (.int 60)) (.v 5)) (.ah (.int 8))),(.v 9)] []),(.bin .Add (.ah (.int 90)) (.v 16)),(.v 9)] []) [16] false (.range [(.v 5)]) none 2),(.v 6),(.ah (.int 7)),(.v 9)] []),
  .s (.v 11) (.call (.ah Hu) [(.v 8),(.neg (.bin .FloorDiv (.neg (.v 7)) (.ah (.int 4)))),(.v 5),(.v 6),(.bool true [(.cmp .Eq (.v 6) (.ah (.int 1))),(.cmp .Eq (.bin .Mod (.bin .FloorDiv (.v 8) (.ah (.int 8))) (.ah (.int 2))) (.ah (.int 1)))])] []),
  .s (.v 12) (.call (.ah (.raw (.builtin "sum"))) [(.comp (.sub (.v 16) (.ah (.int 2))) [16] false (.val (.v 11)) none 2)] []),
  .ifs (.bool false [(.cmp .NotEq (.aI (.v 10) "sectors" []) (.bin .Mult (.bin .Add (.bin .FloorDiv (.ah (.int 60)) (.v 5)) (.ah (.int 4))) (.v 5))),(.cmp .NotEq (.aI (.v 10) "asize" [(.v 7)]) (.bin .Mult (.neg (.bin .FloorDiv (.neg (.v 12)) (.bin .Add (.v 6) (.ah (.int 1))))) (.bin .Add (.v 6) (.ah (.int 1)))))]) [.ret (some (.ah (.bool false)))] [],
  .s (.v 14) (.call (.ah (.raw (.type "bytes"))) [(.comp (.bin .Add (.ah (.int 1)) (.bin .Mod (.bin .Add (.v 4) (.bin .Mult (.ah (.int 37)) (.v 16))) (.ah (.int 255)))) [16] false (.range [(.v 7)]) none 2)] []),
  .ifs (.not (.val (.aI (.v 10) "write" [(.v 8),(.v 14),(.ah (.int 3))]))) [.ret (some (.ah (.bool false)))] [],
  .expr (.aI (.v 10) "flush" []),
  .ifs (.cmp .NotEq (.comp (.aI (.a (.v 16) "disk") "pending" []) [16] false (.val (.aI (.v 10) "leaves" [])) none 2) (.bin .Mult (.list [(.ah (.int 0))]) (.v 5))) [.ret (some (.ah (.bool false)))] [],
  .ifs (.cmp .NotEq (.aI (.v 10) "read" [(.v 8),(.v 7),(.lam 14)]) (.tuple [(.v 14),(.list [])])) [.ret (some (.ah (.bool false)))] [],
  .ifs (.not (.val (.call (.ah Hx) [(.v 10),(.v 11),(.v 8),(.v 14),(.call (.ah tz) [(.v 0),(.bin .Add (.v 1) (.ah (.int 3)))] [])] []))) [.ret (some (.ah (.bool false)))] [],
  .s (.v 13) (.call (.ah (.raw (.type "bytes"))) [(.comp (.bin .Sub (.ah (.int 256)) (.v 16)) [16] false (.val (.v 14)) none 2)] []),
  .ret (some (.bool true [(.call (.ah Hy) [(.v 10),(.v 11),(.v 8),(.v 13),(.call (.ah tz) [(.v 0),(.bin .Add (.v 1) (.ah (.int 4)))] [])] []),(.call (.ah Hz) [(.v 10),(.v 5)] [])]))]⟩
noncomputable def HB:Fn:=⟨1,2,[
  .s (.v 0) (.slice (.v 0) none (some (.ah (.int 63)))),
  .loop [1] false (.range [(.call (.ah (.raw (.builtin "max"))) [(.ah (.int 1)),(.call (.ah (.raw (.builtin "min"))) [(.ah (.int 2)),(.bin .FloorDiv (.call (.ah (.raw (.builtin "len"))) [(.v 0)] []) (.ah (.int 5)))] [])] [])]) [.ifs (.not (.val (.call (.ah HA) [(.v 0),(.bin .Mult (.ah (.int 5)) (.v 1))] []))) [.ret (some (.ah (.bool false)))] []],
  .ret (some (.ah (.bool true)))]⟩
noncomputable def lZ:List (Str×ab):= [
 (bd "_wall",Qs),
 (bd "PoolFault",Qt),
 (bd "Misused",Qu),
 (bd "Column",GZ),
 (bd "sectors_of",BL),
 (bd "want_group",BM),
 (bd "asize",BN),
 (bd "asize_raidmap",BN),
 (bd "sizes_of",G0),
 (bd "is_turned",G9),
 (bd "columns",BO),
 (bd "columns_raidmap",BO),
 (bd "parts_of",Ha),
 (bd "joined",BP),
 (bd "FIELD",(.int 285)),
 (bd "double",Hb),
 (bd "mul",yt),
 (bd "power",BQ),
 (bd "inverse",Hc),
 (bd "doubled",BR),
 (bd "added",vp),
 (bd "scaled",BS),
 (bd "turned",Hd),
 (bd "times_row",vq),
 (bd "plus_row",BU),
 (bd "parity_row",He),
 (bd "parity_of",Hf),
 (bd "factor_of",BW),
 (bd "missing_sum",Hg),
 (bd "solved",Hh),
 (bd "data_of",Hi),
 (bd "choices",Hj),
 (bd "Stripes",Hk),
 (bd "Disk",Hl),
 (bd "Shape",Hm),
 (bd "round_up",Hn),
 (bd "many_of",yu),
 (bd "slot_sectors",Ho),
 (bd "config_sectors",Hp),
 (bd "label_sectors",BX),
 (bd "data_sectors",Hq),
 (bd "Ranges",Hr),
 (bd "whole_sectors",Hs),
 (bd "Leaf",Ht),
 (bd "_law_digit",tz),
 (bd "_law_painted",Hu),
 (bd "_law_losses",Hv),
 (bd "_law_harm",Hw),
 (bd "_law_put_out",vt),
 (bd "_law_is_lost_right",Hx),
 (bd "_law_is_anew_right",Hy),
 (bd "_law_sizes_right",Hz),
 (bd "_law_group_right",HA),
 (bd "law",Qv),
 (bd "len",(.raw (.builtin "len"))),
 (bd "range",(.raw (.type "range"))),
 (bd "enumerate",(.raw (.type "enumerate"))),
 (bd "zip",(.raw (.type "zip"))),
 (bd "sorted",(.raw (.builtin "sorted"))),
 (bd "min",(.raw (.builtin "min"))),
 (bd "max",(.raw (.builtin "max"))),
 (bd "sum",(.raw (.builtin "sum"))),
 (bd "all",(.raw (.builtin "all"))),
 (bd "int",(.raw (.type "int"))),
 (bd "bytes",(.raw (.type "bytes"))),
 (bd "bytearray",(.raw (.type "bytearray"))),
 (bd "dict",(.raw (.type "dict"))),
 (bd "list",(.raw (.type "list"))),
 (bd "tuple",(.raw (.type "tuple"))),
 (bd "Exception",(.raw (.type "Exception")))]
section
variable {bs:List Bool}{r:Expr}
section
variable{X:Cx}{n:Nat}{L:Addr}{ae:List Loc}
theorem chain{t:Sem α}{R:(Addr->Prop)->Heap->β->α->Prop}{K:β->St->Prop}(h:mO X n L ae t R K st){A κ s}(hr:cG n A)(rel:Rel X L ae st κ s){Q:α->al->Prop}
  (hq:∀y s1 b aw ay,Rel X L ae aw ay s1->be (λz=>z =L) st.σ κ s.heap aw.σ ay s1.heap->R (aj aw.σ ay) s1.heap b y->K b aw->Q y s1):ai X.M A t Q (λJ J=>False) s :=
 eS (h A κ s hr rel) (λy s1 p=>p.casesOn λb aw ay r e v k=>hq y s1 b aw ay r e v k) λJ J x=>x
theorem weak{t:Sem α}{A s}{Q Q':α->al->Prop}(h:ai X.M A t Q (λJ J=>False) s)(hq:∀y s1,Q y s1->Q' y s1):ai X.M A t Q' (λJ J=>False) s:=eS h hq λJ J x=>x
theorem mO.mono{t:Sem α}{R:(Addr->Prop)->Heap->β->α->Prop}{K K':β->St->Prop}(h:mO X n L ae t R K st)(k:∀b st,K b st->K' b st):mO X n L ae t R K' st:=λA κ s hr rel =>
 weak (h A κ s hr rel) λJ J p=>p.casesOn λb st' κ' r e v q=>⟨b,st',κ',r,e,v,k _ _ q⟩
def Op(X:Cx)(n:Nat)(L:Addr)(ae:List Loc)(st:St)(κ:bI)(s:al)(t:Sem α)(R:(Addr->Prop)->Heap->β->α->Prop)(K:β->St->Prop):Prop :=
 ∀A,cG n A->ai X.M A t (Post X L ae st.σ κ s.heap R K) (λJ J=>False) s
def yv(_:Addr->Prop)(_:Heap)(b:Bool)(y:Value):Prop:=y= .bool b
def fG(U:Addr->Prop)(h:Heap):Option ab->Value->Prop
 | none,y=>y= .none
 | some v,y=>am U h v y
theorem fG.mono{U h U' h'}(S:c7 U h U' h'){v y}:fG U h v y->fG U' h' v y:=v.casesOn id λJ e=>VR.mono S e
theorem RN:∀{m:List (Option ab)} {i:Nat} {v:ab},(nQ bs m)[i]? =some (some v)->m[i]? =some (some v):=by
 induction bs with
 | nil=>exact id
 | cons b bs ih =>
  intro m i v h;cases m with
  | nil=>exact h
  | cons w m =>
   cases i with
   | zero=>cases b;exact h;exact nn (aM h)
   | succ i=>exact ih (m:=m) (i:=i) h
theorem RO:∀{m:List (Option ab)},(nQ bs m).length=m.length:=by
 induction bs with
 | nil=>exact rfl
 | cons b bs ih =>
  intro m;cases m with
  | nil=>rfl
  | cons w m=>exact congrArg (λz=>z +1) ih
theorem Rel.nQ{κ s}(r:Rel X L ae st κ s):Rel X L ae (gx bs st) κ s :=
 have f:=r.f;⟨r.g,f.tag,f.ns,RO.trans f.len,f.lt,λi v e=>f.vals i v (RN e),f.rd,f.wr,f.nodup⟩
abbrev RP(X:Cx)(n:Nat):Prop:=∀{L ae op a b st K κ s x y},yl op a b st K->Rel X L ae st κ s->am (aj st.σ κ) s.heap a x->am (aj st.σ κ) s.heap b y->Op X n L ae st κ s (binaryOp op x y) am K
abbrev RQ(X:Cx)(n:Nat):Prop:=∀{L ae op a b st K κ s x y},BJ op a b st K->Rel X L ae st κ s->am (aj st.σ κ) s.heap a x->am (aj st.σ κ) s.heap b y->Op X n L ae st κ s (inplaceOp op x y) am K
abbrev RR(X:Cx)(n:Nat):Prop:=∀{L ae i st K κ s x},K (.int (-i)) st->Rel X L ae st κ s->am (aj st.σ κ) s.heap (.int i) x->Op X n L ae st κ s (unaryOp .USub x) am K
abbrev RS(X:Cx)(n:Nat):Prop:=∀{L ae op a b st K κ s x y},eX op a b st K->Rel X L ae st κ s->am (aj st.σ κ) s.heap a x->am (aj st.σ κ) s.heap b y->Op X n L ae st κ s (compareOp op x y) yv K
abbrev RT(X:Cx)(n:Nat):Prop:=∀{L ae o i st K κ s x y} {e1 e2:Expr},qV o i st K->Rel X L ae st κ s->am (aj st.σ κ) s.heap o x->am (aj st.σ κ) s.heap i y->(∀a b c d,e2≠ .Slice a b c d)->Op X n L ae st κ s (subscriptTail e1 e2 x y) am K
abbrev RU(X:Cx)(n:Nat):Prop:=∀{L ae o i st K κ s x y},qV o i st K->Rel X L ae st κ s->am (aj st.σ κ) s.heap o x->am (aj st.σ κ) s.heap i y->Op X n L ae st κ s (getItem x y) am K
abbrev RV(X:Cx)(n:Nat):Prop:=∀{L ae o st K κ s x d} {lo hi:Option ab} {l u:Value} {e1 e3 e4:Expr} {p:Pos},kj o lo hi st K->Rel X L ae st κ s->am (aj st.σ κ) s.heap o x->fG (aj st.σ κ) s.heap lo l->fG (aj st.σ κ) s.heap hi u->
 s.heap.get? d=some {cls:= .type "slice",data:= .fields #[l,u, .none]}->aj st.σ κ d->∀{a b:Option Expr},Op X n L ae st κ s (subscriptTail e1 (.Slice a b none p) x (.ref d)) am K
abbrev RX(X:Cx)(n:Nat):Prop:=∀{L ae o v st K κ s x} {f:Str},lP st.σ o f=some v->attrOk st.σ o f v=true->K v st->Rel X L ae st κ s->am (aj st.σ κ) s.heap o x->Op X n L ae st κ s (getAttr x f true) am K
abbrev RY(X:Cx)(n:Nat):Prop:=∀{L ae o v st K κ s x y} {f:Str},tv o f v st (K ())->Rel X L ae st κ s->am (aj st.σ κ) s.heap o x->am (aj st.σ κ) s.heap v y->Op X n L ae st κ s (setAttr x f y) hH K
abbrev RZ(X:Cx)(n:Nat):Prop:=∀{L ae o i v st K κ s x y z},py o i v st (K ())->Rel X L ae st κ s->am (aj st.σ κ) s.heap o x->am (aj st.σ κ) s.heap i y->am (aj st.σ κ) s.heap v z->Op X n L ae st κ s (setItem x y z) hH K
abbrev R0(X:Cx)(n:Nat):Prop:=∀{L ae o v st K κ s x z d} {lo hi:Option ab} {l u:Value},vk o lo hi v st (K ())->Rel X L ae st κ s->am (aj st.σ κ) s.heap o x->fG (aj st.σ κ) s.heap lo l->fG (aj st.σ κ) s.heap hi u->am (aj st.σ κ) s.heap v z->
 s.heap.get? d=some {cls:= .type "slice",data:= .fields #[l,u, .none]}->aj st.σ κ d->Op X n L ae st κ s (setItem x (.ref d) z) hH K
structure Ops(X:Cx)(n:Nat):Prop where
 bin:RP X n
 HC:RQ X n
 neg:RR X n
 cmp:RS X n
 sub:RT X n
 get:RU X n
 slice:RV X n
 attr:RX X n
 setAttr:RY X n
 B3:RZ X n
 HD:R0 X n
theorem Post.to{κ h}{R:(Addr->Prop)->Heap->β->α->Prop}{K:β->St->Prop}{y:α}{b:β}{aw ay}(r:Rel X L ae aw ay s1)(e:be (λz=>z =L) st.σ κ h aw.σ ay s1.heap)(v:R (aj aw.σ ay) s1.heap b y)(k:K b aw):Post X L ae st.σ κ h R K y s1:=⟨b,aw,ay,r,e,v,k⟩
theorem R1{P:Const->ab->Prop}(a:P .none .none)(b:∀b,P (.bool b) (.bool b))(d:∀i,P (.int i) (.int i))(f:∀i,P (.bytes i) (.bytes i)){c:Const}(h:cC c=some v):P c v:=by
 cases c with
 | none=>exact ao (aM h) a
 | bool=>exact ao (aM h) (b _)
 | int=>exact ao (aM h) (d _)
 | bytes=>exact ao (aM h) (f _)
 | _=>exact nn h
theorem R3{c:Const}(hc:cC c=some v)(k:K v st):bK X n L ae (eval (.Constant c p pos) ac) K st:=λA κ s hr rel =>
 R1 (P:=λc v=>K v st->ai X.M A (eval (.Constant c p pos) ac) (Post X L ae st.σ κ s.heap am K) (λJ J=>False) s) (λk=>PT (.same rel rfl rfl rfl (.raw _) k)) (λJ k=>PK (.same rel rfl rfl rfl (.raw _) k)) (λJ k=>PU (.same rel rfl rfl rfl (.int _ _) k))
  (λb k=>show ai _ _ (mkTextBytes b.toArray) _ _ _ from aE (O1 (aY (.same rel rfl rfl rfl (.bytes _ _) k)))) hc k
theorem B4{P:Value->Prop}{h:Heap}{K:Bool->St->Prop}(r:am U h v y)(k:jl v st K)(q:∀b,v= .bool b->K b st->P (.bool b)):P y :=
 jl.of (C:=λv=>am U h v y->(∀b,v= .bool b->K b st->P (.bool b))->P y) k (λb k r q=>r.bQ▸q b rfl k) r q
variable(O:Ops X n)
include O
theorem R4{l:Expr}{op:o8}
  (h:bK X n L ae (eval l ac) (λx aw=>bK X n L ae (eval r ac) (λy ba=>yl op x y ba K) aw) st):bK X n L ae (eval (.BinOp l op r pos) ac) K st:=λA κ s hr rel =>
 O9 (chain h hr rel λx s1 a aw ay r1 e1 v1 k1=>chain k1 hr r1 λy s2 b ba bN r2 e2 v2 k2 =>
  weak (O.bin k2 r2 (v1.mono e2.bb) v2 A hr) λJ J p=>p.trans (e1.trans e2))
theorem R5{l:Expr}
  (h:bK X n L ae (eval l ac) (λx aw=>fP x λi=>K (.int (-i)) aw) st):bK X n L ae (eval (.UnaryOp .USub l pos) ac) K st:=λA κ s hr rel =>
 Gu (chain h hr rel λx s1 a aw ay r1 e1 v1 k1=>fP.of (C:=λa=>am (aj aw.σ ay) s1.heap a x->ai X.M A (unaryOp .USub x) _ _ s1) k1 (λJ k v=>weak (O.neg k r1 v A hr) λJ J p=>p.trans e1) v1)
omit O in
theorem R6{l:Expr}
  (h:bK X n L ae (eval l ac) (λx aw=>jl x aw λb st=>K (.bool (!b)) st) st):bK X n L ae (eval (.UnaryOp .Not l pos) ac) K st:=λA κ s hr rel =>
 Gu (chain h hr rel λx s1 a aw ay r1 e1 v1 k1=>B4 (P:=λx=>ai X.M A (unaryOp .Not x) (Post X L ae st.σ κ s.heap am K) (λJ J=>False) s1) v1 k1 λb J k =>
  show ai _ _ (truthy _>>=_) _ _ _ from aE (sZ (aY (.to r1 e1 (.raw _) k))))
theorem yw{A κ s}{op:fm}{a b:ab}{x:Value}{K:Bool->St->Prop}(hr:cG n A)(k:eX op a b st K)(r:Rel X L ae st κ s)(v:am (aj st.σ κ) s.heap a x)(w:am (aj st.σ κ) s.heap b y)
  (q:∀b s3 dS fo,Rel X L ae dS fo s3->be (λz=>z =L) st.σ κ s.heap dS.σ fo s3.heap->K b dS->Q (.bool b) s3):ai X.M A (compareOp op x y) Q (λJ J=>False) s :=
 weak (O.cmp k r v w A hr) λJ J p=>p.casesOn λb dS fo r3 e3 v3 k3=>v3▸q b _ dS fo r3 e3 k3
theorem R7{l:Expr}{op:fm}(hm:behindInMarks op r=false)
  (h:bK X n L ae (eval l ac) (λx aw=>bK X n L ae (eval r ac) (λy ba=>eX op x y ba λb st=>K (.bool b) st) aw) st):bK X n L ae (eval (.Compare l [op] [r] pos) ac) K st:=λA κ s hr rel =>
 Gv (chain h hr rel λx s1 a aw ay r1 e1 v1 k1=>chain k1 hr r1 λy s2 b ba bN r2 e2 v2 k2=>yw O hr k2 r2 (v1.mono e2.bb) v2 λb s3 dS fo r3 e3 k3=> .to r3 ((e1.trans e2).trans e3) (.raw _) k3) hm
theorem R8{l:Expr}{op:fm}{K:Bool->St->Prop}{wh:Sem Value}(hm:behindInMarks op r=false)
  (h:bK X n L ae (eval l ac) (λx aw=>bK X n L ae (eval r ac) (λy ba=>eX op x y ba K) aw) st):jN X n L ae (iJ (.Compare l [op] [r] pos) ac wh) K st:=λA κ s hr rel =>
 Pa (chain h hr rel λx s1 a aw ay r1 e1 v1 k1=>chain k1 hr r1 λy s2 b ba bN r2 e2 v2 k2=>yw O hr k2 r2 (v1.mono e2.bb) v2 λb s3 dS fo r3 e3 k3=>sZ (.to r3 ((e1.trans e2).trans e3) rfl k3)) hm
end
end
section
variable {fN eL:fm}{r1 r2:Expr}{wh:Sem Value}
section
variable{X:Cx}{n:Nat}{L:Addr}{ae:List Loc}
theorem HE(hm:behindInMarks eL r2=false):markedEach [fN,eL] [r1,r2] (evalEach [r1,r2] ac)= [eval r1 ac,eval r2 ac]:=by
 refine (?_: [eval r1 ac,markedBehindIn eL r2 (eval r2 ac)]=_);unfold markedBehindIn;exact aa hm rfl
theorem R9{t a b:Expr}
  (h:jN X n L ae (iJ t ac (eval t ac)) (λc aw=>bf c (bK X n L ae (eval a ac) K aw) (bK X n L ae (eval b ac) K aw)) st):bK X n L ae (eval (.IfExp t a b pos) ac) K st:=λA κ s hr rel =>
 O8 (chain h hr rel λc s1 a' aw ay r1 e1 v1 k1=>by
  cases v1;cases c<;>exact weak (k1 A ay s1 hr r1) λJ J p=>p.trans e1)
theorem Sc{x:Expr}{K:Bool->St->Prop}
  (h:jN X n L ae (iJ x ac (eval x ac)) (λb st=>K (!b) st) st):jN X n L ae (iJ (.UnaryOp .Not x pos) ac wh) K st:=λA κ s hr rel =>
 Pb (chain h hr rel λc s1 a' aw ay r1 e1 v1 k1=> .to r1 e1 rfl (v1▸k1))
theorem Sd{K:Bool->St->Prop}
  (he:iJ e ac (eval e ac)=(eval e ac>>=λv=>standAt e.pos>>=λJ=>holding [v] (truthy v)))
  (h:bK X n L ae (eval e ac) (λv st=>jl v st K) st):jN X n L ae (iJ e ac (eval e ac)) K st :=
 he▸λA κ s hr rel=>aE (chain h hr rel λc s1 a aw ay r1 e1 v1 k1=>aE (g8 (cj
  (B4 (P:=λc=>ai X.M A (truthy c) _ _ s1) v1 k1 λb J k=>sZ (.to r1 e1 rfl k)))))
def yx(X:Cx)(n:Nat)(L:Addr)(ae:List Loc)(ac:Env)(bT:Bool)(es:List Expr)(K:Bool->St->Prop):St->Prop :=
 es.rec (λst=>K bT st) λe J ih st=>jN X n L ae (iJ e ac (eval e ac)) (λb st=>ke bT b (ih st) (K (!bT) st)) st
theorem Se{bT:Bool}{K:Bool->St->Prop}:∀{st:St},yx X n L ae ac bT es K st->jN X n L ae (allTrue (if bT then .And else .Or) es ac) K st:=by
 induction es with
 | nil=>exact λh A κ s hr rel=>by cases bT<;>exact aY (.same rel rfl rfl rfl rfl h)
 | cons e es ih =>
  intro st h A κ s hr rel;cases bT
  ·exact Pe (chain h hr rel λc s1 a' aw ay r1 e1 v1 k1=>by
    cases v1;cases c
    ·exact weak (ih k1 A ay s1 hr r1) λJ J p=>p.trans e1
    ·exact .to r1 e1 rfl k1)
  ·exact Pd (chain h hr rel λc s1 a' aw ay r1 e1 v1 k1=>by
    cases v1;cases c
    ·exact .to r1 e1 rfl k1
    ·exact weak (ih k1 A ay s1 hr r1) λJ J p=>p.trans e1)
theorem Sf{op:BoolOp}{K:Bool->St->Prop}(h:yx X n L ae ac (op== .And) es K st):jN X n L ae (iJ (.BoolOp op es pos) ac wh) K st:=λA κ s hr rel =>
 Pc (by have:=Se h A κ s hr rel;cases op<;>exact this)
def yz(X:Cx)(n:Nat)(L:Addr)(ae:List Loc)(ac:Env)(bT:Bool)(es:List Expr)(K:ab->St->Prop):St->Prop :=
 es.rec (λJ=>False) λe es ih st=>es.casesOn (bK X n L ae (eval e ac) K st) λJ J=>bK X n L ae (eval e ac) (λv st=>jl v st λb st=>ke bT b (ih st) (K v st)) st
theorem Sg{op:BoolOp}:∀{st:St},yz X n L ae ac (op== .And) es K st->bK X n L ae (eval (.BoolOp op es pos) ac) K st:=by
 refine (?_:∀{st:St},_->bK X n L ae (boolOp pos op (evalEach es ac)) K st)
 induction es with
 | nil=>exact λh=>h.elim
 | cons e es ih =>
  intro st h;cases es with
  | nil=>exact h
  | cons e' es =>
   exact λA κ s hr rel=>aE (chain h hr rel λc s1 a aw ay r1 e1 v1 k1=>aE (g8 (aE (cj
    (B4 (P:=λc=>ai X.M A (truthy c) _ _ s1) v1 k1 λb e k=>sZ (by
     subst e;cases op<;>cases b
     ·exact aY (.to r1 e1 (v1.bQ▸ .raw _) k)
     ·exact weak (ih k A ay s1 hr r1) λJ J p=>p.trans e1
     ·exact weak (ih k A ay s1 hr r1) λJ J p=>p.trans e1
     ·exact aY (.to r1 e1 (v1.bQ▸ .raw _) k)))))))
theorem yA{vs ks:List Value}{A s}{Q:Unit->al->Prop}(h:Q () s):ai X.M A (release vs ks) Q (λJ J=>False) s:=PZ h
variable(O:Ops X n)
include O
theorem two{l:Expr}{K:Bool->St->Prop}{A κ s}{no:Value->Sem α}{yes:Sem Value->Sem α}{Q:α->al->Prop}{G:Value->al->Prop}(hy:∀t s,ai X.M A t G (λJ J=>False) s->ai X.M A (yes t) Q (λJ J=>False) s)(hr:cG n A)(rel:Rel X L ae st κ s)
  (h:bK X n L ae (eval l ac) (λx aw=>bK X n L ae (eval r1 ac) (λy ba=>eX fN x y ba λb dS =>
   bf b (bK X n L ae (eval r2 ac) (λz qY=>eX eL y z qY K) dS) (K false dS)) aw) st)
  (q:∀b s3 dS fo,Rel X L ae dS fo s3->be (λz=>z =L) st.σ κ s.heap dS.σ fo s3.heap->K b dS->G (.bool b) s3/\(b=false->ai X.M A (no (.bool false)) Q (λJ J=>False) s3)) :
  ai X.M A (eval l ac>>=λx=>holding [x] (eval r1 ac)>>=λrv=>standAt pos>>=λJ=>holding [x,rv] (compareOp fN x rv)>>=λc=>release [x,rv] [c]>>=λJ =>
   holding [c,rv] (truthy c)>>=λb=>if b then (holding [rv] (eval r2 ac)>>=λHF=>standAt pos>>=λJ=>yes (operate [rv,HF] (compareOp eL rv HF))) else no c) Q (λJ J=>False) s :=
 aE (chain h hr rel λx s1 a aw ay Sh e1 v1 k1=>aE (cj (chain k1 hr Sh λy s2 b ba bN Si e2 v2 k2=>aE (g8 (aE (cj
  (yw O hr k2 Si (v1.mono e2.bb) v2 λb3 s3 dS fo HG e3 k3=>aE (yA (aE (cj (sZ (by
   cases b3
   ·exact (q false s3 dS fo HG ((e1.trans e2).trans e3) k3).2 rfl
   ·exact aE (cj (chain k3 hr HG λz s4 d qY mU Sj e4 v4 k4=>aE (g8 (hy _ _ (sU
     (yw O hr k4 Sj ((v2.mono e3.bb).mono e4.bb) v4 λb5 s5 B5 tA Sk e5 k5=>(q b5 s5 B5 tA Sk ((((e1.trans e2).trans e3).trans e4).trans e5) k5).1))))))))))))))))))
theorem Sl{l:Expr}(hm:behindInMarks eL r2=false)
  (h:bK X n L ae (eval l ac) (λx aw=>bK X n L ae (eval r1 ac) (λy ba=>eX fN x y ba λb dS =>
   bf b (bK X n L ae (eval r2 ac) (λz qY=>eX eL y z qY λb st=>K (.bool b) st) dS) (K (.bool false) dS)) aw) st):bK X n L ae (eval (.Compare l [fN,eL] [r1,r2] pos) ac) K st:=λA κ s hr rel=>by
 refine (?_:ai _ _ (eval l ac>>=λv=>compareChain pos v [fN,eL] (markedEach [fN,eL] [r1,r2] (evalEach [r1,r2] ac))) _ _ _);exact aa (HE hm) (two (K:=λb st=>K (.bool b) st) (yes:=id) (no:=pure) O (λJ J h=>h) hr rel h λb s3 dS fo r3 e3 k3=>⟨.to r3 e3 (.raw _) k3,λe=>aY (.to r3 e3 (.raw _) (ao e k3))⟩)
theorem Sm{l:Expr}{K:Bool->St->Prop}(hm:behindInMarks eL r2=false)
  (h:bK X n L ae (eval l ac) (λx aw=>bK X n L ae (eval r1 ac) (λy ba=>eX fN x y ba λb dS =>
   bf b (bK X n L ae (eval r2 ac) (λz qY=>eX eL y z qY K) dS) (K false dS)) aw) st):jN X n L ae (iJ (.Compare l [fN,eL] [r1,r2] pos) ac wh) K st:=λA κ s hr rel=>by
 refine (?_:ai _ _ (eval l ac>>=λv=>testChain pos v [fN,eL] (markedEach [fN,eL] [r1,r2] (evalEach [r1,r2] ac))) _ _ _);exact aa (HE hm) (two (yes:=λt=>t>>=λc=>holding [c] (truthy c)) (no:=λJ=>pure false) O (λJ J h=>aE h) hr rel h λb s3 dS fo r3 e3 k3=>⟨cj (sZ (.to r3 e3 rfl k3)),λe=>aY (.to r3 e3 rfl (ao e k3))⟩)
end
end
structure vv(K:eD)(C:Addr)(x:Str):Prop where
 get:plainGet K C x=true
 dict:hasDictIn K C=true
 find:∃attr,findIn K (.ref C) x=some attr/\noGet K attr=true
 set:findIn K (.ref C) "__setattr__" =some (some (.builtin "object.__setattr__"))
 over:plainOver K C=true
 Sn:takerIn K C x=some none
structure eY(X:Cx):Prop where
 K:X.K.In X.h₀
 nolimit:X.h₀.NoLimit
 glob:∃mg mb,X.h₀.Ns mainGlobals mg/\X.h₀.Ns builtinsNs mb/\(∀x:Str,x≠ "__name__" ->mb x=bootBuiltins x)/\
  ∃bm ob,mg "__builtins__" =some (.ref bm)/\bm≠builtinsNs/\bm≠mainGlobals/\X.h₀.get? bm=some ob/\ob.cls= .type "module" /\ob.dict=some builtinsNs/\ob.data= .plain
 cls:∀C x,mP C x=true->vv X.K C x
 HH:∃o,X.h₀.get? sysModules=some o
 meths:∀C x f,po C x=some f->plainGet X.K C x=true/\findIn X.K (.ref C) x=some (some (.ref f))/\isFn X.K (.ref f)=true
 yB:∀C f,BD.lookup C=some f->makesIn X.K C=true/\findIn X.K (.ref C) "__init__" =some (some (.ref f))/\typeIn X.K (.ref f)=some (.type "function")
 HI:∀t∈X.tabs,∀t'∈X.tabs,t.2.1=t'.2.1->t=t'
noncomputable def vw(v:Value):ab:=xV (.raw v) (.raw v) (λJ=> .raw v) (λi=> .int i) (λJ=> .raw v) v
theorem HJ(v:Value)(U h):am U h (vw v) v:=by rcases v with ⟨⟩<;>first | exact .int _ _ | exact .raw _
def yC(X:Cx)(G:List (Str×ab)):Prop:=∀x v,G.lookup x=some v->∃y,v=vw y/\
 (nsIn X.K mainGlobals x=some (some y)∨(nsIn X.K mainGlobals x=some none/\bootBuiltins x=some y/\x≠ "__name__"))
structure dK(X:Cx)(ac:Env)(L:Addr)(ae:List Loc)(c:CT):Prop where
 kind:ac.scope.kind= .function
 locals:ac.locals=L
 globals:ac.globals=mainGlobals
 builtins:ac.builtins=builtinsNs
 n:c.n=ae.length
 G:yC X c.G
 glob:∀x,c.names.lookup x=some .globalImplicit->ac.kindOf x=some .globalImplicit
 tab:c.lam=true->(∀l∈ae,L≤l.addr)/\∃co P,ac.code= .ref co/\CodeHd X.h₀ co P/\(co,P,ac.qual++ "<lambda>")∈X.tabs
 kinds:∀x k,c.names.lookup x=some k->ac.kindOf x=some k∨(k= .free/\ac.kindOf x=some .cell)
 idx:∀x i,gJ x=false->isVar (c.names.lookup x)=true->c.idx.lookup x=some i->
  ∃l,ae[i]? =some l/\((ac.kindOf x=some .local/\l= .loc L x)∨((ac.kindOf x=some .cell∨ac.kindOf x=some .free)/\∃a,ac.cells.lookup x=some a/\l= .cell a))
section
variable{X:Cx}{n:Nat}{L:Addr}{ae:List Loc}{ac:Env}{c:CT}
theorem mV{b:Bool}{x:Option α}{r:α}(h:(if b=true then x else none)=some r):b=true/\x=some r:=by
 cases b with
 | true=>exact ⟨rfl,h⟩
 | false=>exact nn h
theorem tB(h:gJ x=false):(x==("__debug__" :Str))=false/\(x==("__classdict__" :Str))=false:=vx.mp h
theorem So{l:Loc}{A s}(hb:gJ x=false)(EO:dK X ac L ae c)
  (hl:(ac.kindOf x=some .local/\l= .loc L x)∨((ac.kindOf x=some .cell∨ac.kindOf x=some .free)/\∃a,ac.cells.lookup x=some a/\l= .cell a)) (hh:lO s.heap l y) (q:Q y s):ai X.M A (loadName ac x) Q (λJ J=>False) s:=by
 rcases hl with ⟨hk,rfl⟩ | ⟨hk | hk,a,ha,rfl⟩
 ·exact aB (hh) λm hn hm=>GB EO.kind hk (EO.locals▸hn) hm q
 ·exact PX EO.kind hk ha hh q
 ·exact GD EO.kind hk ha hh q (tB hb).2
theorem HK{i:Nat}(h:jO c x=some i):gJ x=false/\isVar (c.names.lookup x)=true/\c.idx.lookup x=some i :=
 let ⟨a,b⟩:=mV h
 ⟨(l0 _).mp (bR.mp a).1,(bR.mp a).2,b⟩
theorem eM{f:α->β}{P:β->Prop}{x:Option α}{r:β}(k:∀a,x=some a->P (f a))(h:x.map f=some r):P r:=by
 cases x with
 | none=>exact nn h
 | some a=>exact ao (aM h) (k a rfl)
theorem HL{P:IE->Prop}{i:IE}(g:∀v,c.names.lookup x=some .globalImplicit->c.G.lookup x=some v->P (.ah v))(k:∀j,isVar (c.names.lookup x)=true->c.idx.lookup x=some j->P (.v j))(h:ji c x=some i):gJ x=false/\P i:=by
 unfold ji at h
 cases hb:gJ x with
 | true=>rw [hb] at h;exact nn h
 | false =>
  rw [hb] at h
  refine ⟨rfl, ?_⟩
  by_cases q:isVar (c.names.lookup x)=true
  ·exact eM (λz=>k z q) ((if_pos q).symm.trans h)
  ·obtain ⟨a,b⟩:=mV ((if_neg q).symm.trans h);exact eM (λz=>g z (eq_of_beq a)) b
theorem B6(ok:eY X)(EO:dK X ac L ae c){i:IE}(hc:ji c x=some i)(h:bC X n i K st):bK X n L ae (eval (.Name x pos) ac) K st:=λA κ s hr rel =>
 let hb:=(HL (P:=λJ=>True) (λJ J J=>⟨⟩) (λJ J J=>⟨⟩) hc).1
 (HL (P:=λi=>bC X n i K st->ai X.M A (eval (.Name x pos) ac) (Post X L ae st.σ κ s.heap am K) (λJ J=>False) s) (λv hk hg h=>Calls.Name_function_global EO.kind (EO.glob x hk) (by
   refine aB (EO.G x v hg) λy a0 hy=> ?_;subst a0;refine eK (ok.glob) λmg mb mW yD HM J=> ?_;rcases hy with hy | ⟨hy,Sp,bt⟩
   ·exact Calls.loadGlobal_global (EO.globals▸mW.keeps rel.g.keep) (mg_of ok.K mW hy) (.same rel rfl rfl rfl (HJ y _ _) h)
   ·exact Calls.loadGlobal_builtin (EO.globals▸mW.keeps rel.g.keep) (mg_none_of ok.K mW hy) (EO.builtins▸yD.keeps rel.g.keep) ((HM x bt).trans Sp) (.same rel rfl rfl rfl (HJ y _ _) h)) (tB hb).1)
  (λj hk hj h=>by
   refine aB (EO.idx x j hb hk hj) λl hl nM=>tx.of (C:=λo=>st.m[j]? =o->ai X.M A (eval (.Name x pos) ac) (Post X L ae st.σ κ s.heap am K) (λJ J=>False) s) h (λv h hv=> ?_) rfl;refine eR (rel.f.vals j v hv) λl' y eE tC B7=> ?_;cases aM (hl.symm.trans eE);exact x8 (So hb EO nM tC (.same rel rfl rfl rfl B7 h)) (tB hb).1) hc).2 h
theorem HN{o:Expr}{f:Str}{sT:Sem Value}(h:baseOk o=true):attributeBase o f ac sT=sT:=by
 rcases o with ⟨⟩<;>first | rfl | exact ff h
theorem Sr{K:List ab->St->Prop}(h:K [] st):tb X n L ae (spliced (backTo pos (starEach [] ac))) K st:=λA κ s hr rel=>PI (.same rel rfl rfl rfl .nil h)
theorem Ss{K:List ab->St->Prop}(he:starEach (e::es) ac=(false,eval e ac)::starEach es ac)
  (h:bK X n L ae (eval e ac) (λv aw=>tb X n L ae (spliced (backTo pos (starEach es ac))) (λvs ba=>K (v::vs) ba) aw) st):tb X n L ae (spliced (backTo pos (starEach (e::es) ac))) K st:=λA κ s hr rel =>
 Pf (chain h hr rel λy s1 a aw ay r1 e1 v1 k1=>chain k1 hr r1 λys s2 as ba bN r2 e2 v2 k2=> .to r2 (e1.trans e2) (.cons (v1.mono e2.bb) v2) k2) he
theorem er(h:Heap)(o:Obj):∀b ob,h.get? b=some ob->(h.push o).get? b=some ob:=λJ J e=>fq o e
theorem iK{σ κ}(G:bk X σ κ s):aj σ κ s.heap.objs.size:=nY λh=>iE (G.lt _ h) λJ e=>absurd (cR e) (iL _)
theorem Su(h:tb X n L ae (spliced (backTo pos (starEach es ac))) (λvs st=>cX (short vs 100) (K (.tuple vs) st)) st) :
  bK X n L ae (eval (.Tuple es k pos) ac) K st:=λA κ s hr rel =>
 O4 (chain h hr rel λys s1 as aw ay r1 e1 v1 k1=>k1.of λhs k1=>⟨ao v1.length (ag (Qf hs) (nb rfl)),by
  refine Post.trans e1 (Post.keep (b:= .tuple as) r1 (er _ _) rfl rfl ?_ k1);exact .tuple (iK r1.g) ⟨_,cV _ rfl,rfl,0,rfl⟩ (v1.mono (gI (er _ _)))⟩)
theorem mX{b:Addr}(h:b≠a):σ.set a o b=σ b:=if_neg h
theorem yE:σ.set a o a=some o:=if_pos rfl
theorem B8{h':Heap}(k:∀b ob,s.heap.get? b=some ob->h'.get? b=some ob):c7 (aj σ κ) s.heap (aj (σ.set s.heap.objs.size o) κ) h':=λa ob u e=>⟨⟨(mX (dz (cR e))).trans u.1,u.2⟩,k a ob e⟩
theorem bk.nZ(G:bk X σ κ s)(k:∀b ob,s.heap.get? b=some ob->s'.heap.get? b=some ob)(bx:∃ob,s'.heap.get? s.heap.objs.size=some ob)(ho:s'.os=s.os)(hg:s'.gens=s.gens)
  (jn:pi (aj (σ.set s.heap.objs.size o) κ) κ s'.heap s.heap.objs.size o):bk X (σ.set s.heap.objs.size o) κ s' :=
 (G.u7 (ex:=λJ=>False) (λJ=>GI) (λa o J J e=>⟨mX (dz (cR e)),rfl,k a o e⟩) (λS=>G.tabs.bb S λt J o e=>k _ o e) G.tab
  (λJ a o' e=>if q:a=s.heap.objs.size then .inr (by subst q;cases aM (yE.symm.trans e);exact ⟨(iK G).2,jn⟩) else .inl ⟨(mX q).symm.trans e,id,λJ J=>id⟩) (λd a e=> .inl ⟨e,id⟩)
  (λa h=>if q:a=s.heap.objs.size then q▸bx else (G.lt a λu=>h ⟨(mX q).trans u.1,u.2⟩).imp λJ=>k _ _) G.fr ho hg).2
theorem be.nZ(k:∀b ob,s.heap.get? b=some ob->s'.heap.get? b=some ob):be (λJ=>False) σ κ s.heap (σ.set s.heap.objs.size o) κ s'.heap :=
 ⟨B8 k,λa o J e J g=>⟨e,k a o g⟩,λa o J e g=>⟨.inl e,o,k a o g⟩⟩
theorem HO{κ s}(rel:Rel X L ae st κ s)(v:aN (aj st.σ κ) s.heap vs ys)(h:fR vs st K)
  (hh:s'.heap=s.heap.push {cls:= .type "list",data:= .seq ys.toArray}) (ho:s'.os=s.os) (hg:s'.gens=s.gens):Post X L ae st.σ κ s.heap am K (.ref s.heap.objs.size) s':=by
 have k:∀b ob,s.heap.get? b=some ob->s'.heap.get? b=some ob:=hh▸er _ _
 have bx:∃ob,s'.heap.get? s.heap.objs.size=some ob:=hh▸⟨_,cV _ rfl⟩
 have jn:s'.heap.IsList s.heap.objs.size ys.toArray:=hh▸⟨_,cV _ rfl,rfl,0,rfl⟩
 rcases h with ⟨_,h⟩ | ⟨_,h⟩
 ·exact .keep rel k ho hg (.list (iK rel.g) jn (v.mono (gI k))) h
 ·exact Post.op rel (rel.g.nZ (o:= .list vs) k bx ho hg ⟨ys,hh▸⟨_,cV _ rfl,rfl,rfl,0,rfl⟩,v.mono (B8 k)⟩) (.nZ k) (.raw _) (h _ (iK rel.g).1)
end
theorem Sv(o:Obj)(f):(yF f o).dict=o.dict:=by obtain ⟨c,d,dt,sl⟩:=o;cases dt<;>rfl
theorem B9{h:Heap}{S:Addr}{xs ys:Array Value}(hS:gH h S xs){f:Array Value->Array Value}(e:f xs=ys):gH (h.update S (yF f)) S ys:=by
 obtain ⟨o,ho,hc,HP,n,hd⟩:=hS;obtain ⟨n',fF⟩:=Obj.data_mapSeq hd f;exact ⟨_,vy _ ho (Obj.isFreed_of_seq fF),(Obj.cls_mapSeq ..).trans hc,(Sv ..).trans HP,n',aa fF (aa e rfl)⟩
theorem HQ{w:cO}{l:Addr}{items:Array Value}{x:Value}(hl:gH s.heap l items)
  (hQ:∀h',gH h' l (items.push x)->iI l s.heap h'->Q .none {s with heap:=h'}) (bJ:items.size≤sizeLine):wpAny (model prog w) A (call (.builtin "list.append") [.ref l,x]) Q E s:=by
 have hT:=hl.list.typeIs
 obtain ⟨o,ho,hc,HP,n,hd⟩:=id hl;refine n0 slot_list_append hT entry_list_append ?_ (args_list_append _ _);refine (?_:wpAny _ _ (updateSeq l (λz=>z.push x)>>=λJ=>ret .none) _ _ s);refine au (HR ho hd ?_ bJ (by simp;exact bJ));exact aU ⟨_,rfl,hQ _ (B9 hl rfl) (mY ..)⟩
section
variable{X:Cx}{n:Nat}{L:Addr}{ae:List Loc}{ac:Env}{c:CT}
theorem tD(h:dQ k):k≤sizeLine:=by unfold dQ at h;refine aa Ca ?_;exact ag h (nb rfl)
theorem Sw(h:tb X n L ae (spliced (backTo pos (starEach es ac))) (λvs st=>fR vs st K) st) :
  bK X n L ae (eval (.List es pos) ac) K st:=λA κ s hr rel =>
 O5 (chain h hr rel λys s1 as aw ay r1 e1 v1 k1=>⟨tD (ao v1.length k1.len),Post.trans e1 (HO r1 v1 k1 rfl rfl rfl)⟩)
theorem qZ{ex:Addr->Prop}{σ κ h σ' κ' h'}(e:be (λJ=>False) σ κ h σ' κ' h'):be ex σ κ h σ' κ' h':=e.weaken λJ x=>x.elim
def pF(X:Cx)(n:Nat)(L:Addr)(ae:List Loc)(ac:Env)(ks:List uR):(List (Str×ab)->St->Prop)->St->Prop :=
 ks.rec (λK st=>K [] st) λk J ih K st=>match k.arg with
  | some x=>bK X n L ae (eval k.value ac) (λv aw=>ih (λvs ba=>K ((x,v)::vs) ba) aw) st
  | none=>False
theorem HS(h:ks.all (λz=>z.arg.isSome)=true):(backToKw pos (keywordEach ks ac)).all (λz=>z.1.isSome)=true:=by
 induction ks with
 | nil=>rfl
 | cons k ks ih =>
  obtain ⟨x,e,p⟩:=k
  have h:=bR.mp h
  cases x with
  | none=>exact ff h.1
  | some x=>exact ih h.2
theorem Sx(h:ks.all (λz=>z.arg.isSome)=true):(backToKw pos (keywordEach ks ac)).any (λz=>z.1.isNone)=false:=by
 induction ks with
 | nil=>rfl
 | cons k ks ih =>
  obtain ⟨x,e,p⟩:=k
  have h:=bR.mp h
  cases x with
  | none=>exact ff h.1
  | some x=>exact ih h.2
inductive HT(X:Cx)(L:Addr)(ae:List Loc)(σ:aq)(κ:bI)(h:Heap)(ns:List Str)(K:List (Str×ab)->St->Prop)(ys:List Value)(s':al):Prop
 | mk (vs:List (Str×ab)) (st':St) (κ':bI):Rel X L ae st' κ' s'->be (λz=>z =L) σ κ h st'.σ κ' s'.heap->aN (aj st'.σ κ') s'.heap (vs.map (λz=>z.2)) ys->ns=vs.map (λz=>z.1)->K vs st'->HT X L ae σ κ h ns K ys s'
theorem Sy:∀{K:List (Str×ab)->St->Prop} {st:St},pF X n L ae ac ks K st->
  ∀A κ s,cG n A->Rel X L ae st κ s->ai X.M A (evalAll ((backToKw pos (keywordEach ks ac)).map (λz=>z.2))) (HT X L ae st.σ κ s.heap ((backToKw pos (keywordEach ks ac)).filterMap (λz=>z.1)) K) (λJ J=>False) s:=by
 induction ks with
 | nil=>exact λh A κ s hr rel=>PY ⟨[],_,κ,rel, .refl, .nil,rfl,h⟩
 | cons k ks ih =>
  obtain ⟨x,e,p⟩:=k;cases x with
  | none=>exact λh=>h.elim
  | some x =>
   exact λh A κ s hr rel=>Pg (aE (chain h hr rel λy s1 v aw ay r1 e1 v1 k1=>aE (g8 (aY
    (weak (ih k1 A ay s1 hr r1) λys s2 p=>p.casesOn λvs ba bN r2 e2 v2 hn k2=>⟨(x,v)::vs,ba,bN,r2,e1.trans e2, .cons (v1.mono e2.bb) v2,congrArg (λz=>x:: z) hn,k2⟩)))))
theorem HU{M:Model}{A E s}{f:Value}{first:List Value}{args:List (Bool×Sem Value)}{dD:List (Option Str×Sem Value)}(Sz:args.any (λz=>z.1)=false)(hk:dD.any (λz=>z.1.isNone)=false)
  (h:ai M A (evalArgs f true args dD) (λa s1=>(∃k,∀A' Q E,Q k s1->ai M A' (keeperOf f) Q E s1)/\ai M A (call f (first++a.pos) a.kw) Q E s1) E s):ai M A (callWith pos f first args dD) Q E s:=by
 refine aE (cj (eS h (λa s1 h1=> ?_) λJ J x=>x));obtain ⟨⟨k,Cb⟩,h1⟩:=h1;refine fB (λq=>g8 q) (aa (show (args.any (λz=>z.1) || dD.any (λz=>z.1.isNone))=false by rw [Sz,hk];rfl) ?_);refine fB (λq=>Cb _ _ _ q) ?_
 have bg:∀{t:Sem Value},ai M A t Q E s1->ai M A (t>>=λr=>holding [r] PySem.point>>=λJ=>pure r) Q E s1:=λht =>
  aE (eS ht (λr s2 q=>aE (cj (Bk (aY q)))) λJ J x=>x)
 have sp:∀{p:Prop} [Decidable p] {a b:Sem Value},ai M A a Q E s1->ai M A b Q E s1->ai M A (if p then a else b) Q E s1:=λ{p} _ {a b} ha hb=>by
  by_cases q:p
  ·rwa [if_pos q]
  ·rwa [if_neg q]
 cases k with
 | frame | boundFrame=>exact sp (bg h1) (bg (O0 h1))
 | _=>first | exact bg h1 | exact bg (sU h1)
noncomputable def Cc(e:Expr):Bool:= !Nat.beq e.ctorIdx 22
noncomputable def mZ(es:List Expr):Bool:=es.all Cc
theorem yG(h:Cc e=true):starEach (e::es) ac=(false,eval e ac)::starEach es ac:=by
 rcases e with ⟨⟩<;>first | rfl | exact ff h
theorem HV(h:mZ es=true):(backTo pos (starEach es ac)).any (λz=>z.1)=false:=by
 induction es with
 | nil=>rfl
 | cons e es ih =>
  exact aa (yG (bR.mp h).1) (ih (bR.mp h).2)
theorem SA(h:mZ es=true):(backTo pos (starEach es ac)).all (λz=>!z.1)=true:=by
 induction es with
 | nil=>rfl
 | cons e es ih =>
  exact aa (yG (bR.mp h).1) (ih (bR.mp h).2)
def l4(X:Cx)(n:Nat)(L:Addr)(ae:List Loc)(ac:Env)(es:List Expr):(List ab->St->Prop)->St->Prop :=
 es.rec (λK st=>K [] st) λe J ih K st=>bK X n L ae (eval e ac) (λv aw=>ih (λvs ba=>K (v::vs) ba) aw) st
theorem Cd:∀{K:List ab->St->Prop} {st:St},mZ es=true->l4 X n L ae ac es K st->tb X n L ae (spliced (backTo pos (starEach es ac))) K st:=by
 induction es with
 | nil=>exact λJ=>Sr
 | cons e es ih=>exact λhp h=>Ss (yG (bR.mp hp).1) (h.mono λv st k=>ih (bR.mp hp).2 k)
theorem l4.mono:∀{K1 K2:List ab->St->Prop} {st:St},(∀vs st,K1 vs st->K2 vs st)->l4 X n L ae ac es K1 st->l4 X n L ae ac es K2 st:=by
 induction es with
 | nil=>exact λhK h=>hK _ _ h
 | cons e es ih=>exact λhK h=>mO.mono h λv st q=>ih (λvs st q=>hK _ _ q) q
inductive Ce(X:Cx)(L:Addr)(ae:List Loc)(σ:aq)(κ:bI)(h:Heap)(K:List ab->List (Str×ab)->St->Prop)(a:Args)(s':al):Prop
 | mk (vs:List ab) (kvs:List (Str×ab)) (st':St) (κ':bI) (dE:List Value):Rel X L ae st' κ' s'->be (λz=>z =L) σ κ h st'.σ κ' s'.heap->
   aN (aj st'.σ κ') s'.heap vs a.pos->aN (aj st'.σ κ') s'.heap (kvs.map (λz=>z.2)) dE->a.kw=(kvs.map (λz=>z.1)).zip dE->K vs kvs st'->Ce X L ae σ κ h K a s'
theorem HW{f:Value}{K:List ab->List (Str×ab)->St->Prop}(hp:mZ es=true)(hk:ks.all (λz=>z.arg.isSome)=true)
  (h:l4 X n L ae ac es (λvs aw=>pF X n L ae ac ks (λkvs ba=>K vs kvs ba) aw) st) {A κ s} (hr:cG n A) (rel:Rel X L ae st κ s) :
  ai X.M A (evalArgs f true (backTo pos (starEach es ac)) (backToKw pos (keywordEach ks ac))) (Ce X L ae st.σ κ s.heap K) (λJ J=>False) s:=by
 have h':=Cd (pos:=pos) hp h
 have bg:∀ys s1 vs aw ay,Rel X L ae aw ay s1->be (λz=>z =L) st.σ κ s.heap aw.σ ay s1.heap->aN (aj aw.σ ay) s1.heap vs ys->pF X n L ae ac ks (λkvs ba=>K vs kvs ba) aw->
   ai X.M A (evalAll ((backToKw pos (keywordEach ks ac)).map (λz=>z.2))) (λdE s2=>Ce X L ae st.σ κ s.heap K ⟨ys,((backToKw pos (keywordEach ks ac)).filterMap (λz=>z.1)).zip dE⟩ s2) (λJ J=>False) s1:=λys s1 vs aw ay r1 e1 v1 k1 =>
  weak (Sy k1 A ay s1 hr r1) λdE s2 p=>p.casesOn λkvs ba bN r2 e2 v2 hn k2=>⟨vs,kvs,ba,bN,dE,r2,e1.trans e2,v1.mono e2.bb,v2,congrArg (λz=>aA z dE) hn,k2⟩
 cases es with
 | nil=>exact evalArgs_kw_nil (HS hk) (bg [] s [] st κ rel .refl .nil h)
 | cons e es =>
  rw [yG (bR.mp hp).1] at h' ⊢
  exact evalArgs_kw (HS hk) (chain h' hr rel λys s1 vs aw ay r1 e1 v1 k1=>bg ys s1 vs aw ay r1 e1 v1 k1)
theorem SC{κ s}{f:ab}{kvs:List (Str×ab)}{dE:List Value}{A}(hr:cG n A)(rel:Rel X L ae st κ s)
  (hf:am (aj st.σ κ) s.heap f y) (hv:aN (aj st.σ κ) s.heap vs ys) (hk:aN (aj st.σ κ) s.heap (kvs.map (λz=>z.2)) dE)
  (h:az X n f vs kvs (λv σ=>K v (st.put σ)) st.σ) :
  (∃k,∀A' Q E,Q k s->ai X.M A' (keeperOf y) Q E s)/\ai X.M A (call y ys ((kvs.map (λz=>z.1)).zip dE)) (Post X L ae st.σ κ s.heap am K) (λJ J=>False) s:=by
 exact ⟨(h.run A κ s y ys dE hr rel.g hf hv hk).1,weak (h.run A κ s y ys dE hr rel.g hf hv hk).2 λz s' hq=>hq.casesOn λv σ' κ' G e vr k=> .op rel G e vr k⟩
theorem HX{cz aw:St}{κ0 ay}{h0:Heap}{f:ab}{first:List ab}{HY:List Value}{A}(hr:cG n A)(r1:Rel X L ae aw ay s1)(e1:be (λz=>z =L) cz.σ κ0 h0 aw.σ ay s1.heap)
  (hp:mZ es=true) (hk:ks.all (λz=>z.arg.isSome)=true) (v1:am (aj aw.σ ay) s1.heap f y) (w1:aN (aj aw.σ ay) s1.heap first HY)
  (h:l4 X n L ae ac es (λvs aw=>pF X n L ae ac ks (λkvs ba=>az X n f (first++vs) kvs (λv σ=>K v (ba.put σ)) ba.σ) aw) aw) :
  ai X.M A (callWith pos y HY (backTo pos (starEach es ac)) (backToKw pos (keywordEach ks ac))) (Post X L ae cz.σ κ0 h0 am K) (λJ J=>False) s1 :=
 HU (HV hp) (Sx hk) (weak (HW (K:=λvs kvs ba=>az X n f (first++vs) kvs (λv σ=>K v (ba.put σ)) ba.σ) hp hk h hr r1) λa s2 p=>p.casesOn λvs kvs ba bN dE r2 e2 v2 w2 ha k2 =>
  let p:=SC (K:=K) hr r2 (v1.mono e2.bb) ((w1.mono e2.bb).append v2) w2 k2
  ⟨p.1,ha▸weak p.2 λJ J p=>p.trans (e1.trans e2)⟩)
theorem SD{func:Expr}(yH:d9 func.ctorIdx 20=false)(hp:mZ es=true)(hk:ks.all (λz=>z.arg.isSome)=true)
  (h:bK X n L ae (eval func ac) (λf cz=>l4 X n L ae ac es (λvs aw=>pF X n L ae ac ks (λkvs ba=>az X n f vs kvs (λv σ=>K v (ba.put σ)) ba.σ) aw) cz) st) :
  bK X n L ae (eval (.Call func es ks pos) ac) K st:=λA κ s hr rel=>by
 have e:eval (.Call func es ks pos) ac=(eval func ac>>=λf=>callWith pos f [] (backTo pos (starEach es ac)) (backToKw pos (keywordEach ks ac))):=by
  rcases func with ⟨⟩<;>first | rfl | exact ff yH.symm
 exact aa e (aE (chain h hr rel λf s1 fv aw ay r1 e1 v1 k1=>HX (first:= []) hr r1 e1 hp hk v1 .nil k1))
theorem SF{o:Expr}{qS:Pos}(hl:(qS.endLine==pos.line)=true)(hn:decide (es.length≤20)=true)(hb:baseOk o=true)(hp:mZ es=true)
  (h:bK X n L ae (eval o ac) (λov cz=>MethP X cz.σ ov x λf=>l4 X n L ae ac es (λvs aw=>az X n (.raw f) (ov::vs) [] (λv σ=>K v (aw.put σ)) aw.σ) cz) st) :
  bK X n L ae (eval (.Call (.Attribute o x qS) es [] pos) ac) K st:=λA κ s hr rel=>by
 refine (?_:ai _ _ (attributeBase o x ac (eval o ac)>>=λov=>standAt qS.atName>>=λJ=>methodCall o x qS pos ac ov (es.length+0) (backTo pos (starEach es ac)) (backToKw pos (keywordEach [] ac))) _ _ _);refine aa (HN hb) (aE (chain h hr rel λy s1 ov aw ay r1 e1 v1 k1=>aE (g8 ?_)));obtain ⟨f,SG,k1⟩:=k1
 have SH:methodCallForm (es.length+0) (backTo pos (starEach es ac)) (backToKw pos (keywordEach [] ac))=true:=by
  unfold methodCallForm;exact aa (SA hp) (decide_eq_true (eB (m:=20) (of_decide_eq_true hn:es.length≤20) (nb rfl)))
 unfold methodCall;refine aa SH (aE (cj (SG ay s1 y r1.g v1 _ _ _ _ λag' hh ho hg=> ?_)));exact aa (show methodCallPos true o ac qS pos=pure pos by unfold methodCallPos;rw [hl];rfl) (aE (aY (HX (first:= [ov]) (ks:= []) hr (r1.toks hh ho hg) (hh▸e1) hp rfl (.raw f) (.one (hh▸v1)) k1)))
end
section
variable{X:Cx}{n:Nat}{L:Addr}{ae:List Loc}{ac:Env}{c:CT}
def l5(X:Cx)(n:Nat)(L:Addr)(ae:List Loc)(ac:Env):Option Expr->(Option ab->St->Prop)->St->Prop
 | none,K,st=>K none st
 | some e,K,st=>bK X n L ae (eval e ac) (λv st=>K (some v) st) st
theorem HZ{e:Option Expr}{K:Option ab->St->Prop}(h:l5 X n L ae ac e K st){A κ s}(hr:cG n A)(rel:Rel X L ae st κ s)
  (hq:∀y s1 v aw ay,Rel X L ae aw ay s1->be (λz=>z =L) st.σ κ s.heap aw.σ ay s1.heap->fG (aj aw.σ ay) s1.heap v y->K v aw->Q y s1):ai X.M A (evalPart e ac) Q (λJ J=>False) s:=by
 cases e with
 | none=>exact aY (hq _ _ none _ _ rel .refl rfl h)
 | some e=>exact chain h hr rel λy s1 v aw ay r1 e1 v1 k1=>hq y s1 (some v) aw ay r1 e1 v1 k1
variable(O:Ops X n)
include O
theorem SI{o:Expr}{f:Str}(hb:baseOk o=true)
  (h:bK X n L ae (eval o ac) (λov st=>GX ov f st K) st):bK X n L ae (eval (.Attribute o f pos) ac) K st:=λA κ s hr rel=>by
 refine (?_:ai _ _ (attributeBase o f ac (eval o ac)>>=λov=>standAt pos.atName>>=λJ=>holding [ov] (getAttr ov f true)>>=λr=>letTemporaryGo o ov r>>=λJ=>pure r) _ _ _);refine aa (HN hb) (aE (chain h hr rel λy s1 ov aw ay r1 e1 v1 k1=>aE (g8 (aE (cj ?_)))));obtain ⟨v,e,k2⟩:=bB.ex k1;obtain ⟨hv,k1⟩:=Qk e;exact weak (O.attr hv k1 k2 r1 v1 A hr) λz s2 p=>aE (PN (aY (Post.trans e1 p)))
theorem SJ{o i:Expr}(hi:∀a b c d,i≠ .Slice a b c d)
  (h:bK X n L ae (eval o ac) (λov aw=>bK X n L ae (eval i ac) (λiv ba=>qV ov iv ba K) aw) st):bK X n L ae (eval (.Subscript o i pos) ac) K st:=λA κ s hr rel =>
 Subscript_ (chain h hr rel λx s1 a aw ay r1 e1 v1 k1=>chain k1 hr r1 λy s2 b ba bN r2 e2 v2 k2 =>
  weak (O.sub k2 r2 (v1.mono e2.bb) v2 hi A hr) λJ J p=>p.trans (e1.trans e2))
omit O in
theorem H0{lo hi:Option Expr}{p:Pos}{K:Option ab->Option ab->St->Prop}
  (h:l5 X n L ae ac lo (λl aw=>l5 X n L ae ac hi (λu ba=>K l u ba) aw) st) {A κ s} (hr:cG n A) (rel:Rel X L ae st κ s) 
  (hq:∀s1 l u aw ay lv uv d,Rel X L ae aw ay s1->be (λz=>z =L) st.σ κ s.heap aw.σ ay s1.heap->fG (aj aw.σ ay) s1.heap l lv->fG (aj aw.σ ay) s1.heap u uv->
   s1.heap.get? d=some {cls:= .type "slice",data:= .fields #[lv,uv, .none]}->aj aw.σ ay d->K l u aw->Q (.ref d) s1):ai X.M A (eval (.Slice lo hi none p) ac) Q (λJ J=>False) s:=by
 refine O6 (HZ h hr rel λlv s1 l aw ay r1 e1 v1 k1=>HZ k1 hr r1 λuv s2 u ba bN r2 e2 v2 k2=>aY ?_);refine hq _ l u ba bN lv uv s2.heap.objs.size (r2.ext (er _ _) rfl rfl) ((e1.trans e2).trans (.ext (er _ _))) ((v1.mono e2.bb).mono (gI (er _ _))) (v2.mono (gI (er _ _))) (cV _ rfl) (iK r2.g) k2
theorem SK{o:Expr}{lo hi:Option Expr}{p:Pos}
  (h:bK X n L ae (eval o ac) (λov cz=>l5 X n L ae ac lo (λl aw=>l5 X n L ae ac hi (λu ba=>kj ov l u ba K) aw) cz) st):bK X n L ae (eval (.Subscript o (.Slice lo hi none p) pos) ac) K st:=λA κ s hr rel =>
 Subscript_ (chain h hr rel λx s1 a aw ay r1 e1 v1 k1=>H0 k1 hr r1 λs2 l u ba bN lv uv d r2 e2 vl vu hd hi k2 =>
  weak (O.slice (e3:= .Constant .none 0 p) (e4:= .Constant .none 0 p) k2 r2 (v1.mono e2.bb) vl vu hd hi A hr) λJ J p=>p.trans (e1.trans e2))
end
section
open scoped Classical
noncomputable abbrev owners:List String:= ["enumerate","zip","dict_itemiterator","dict_reverseitemiterator","odict_iterator","itertools.zip_longest","itertools.pairwise"]
inductive eF(X:Cx)(U:Addr->Prop)(κ:bI)(h:Heap)(I:Addr):Bool->List (Addr×List ab)->List ab->Prop
 | one {fp wr:List Addr} {n:Nat} {P:Nat->Value->Prop} {St:Nat->Heap->Prop} {i:Nat} {items:List ab} {T:String}:(∀A,A.handled=none->Cf X.prog X.w A I fp wr n P St)->(∀j h,St j h->(∀b∈fp,∃o,h.get? b=some o)/\∃o,h.get? I=some o/\o.cls= .type T)->
   owners.contains T=false->St i h->items.length=n->i≤n->(∀b∈wr,κ b= .frame I)->(∀b∈fp,b∈wr∨U b)->
   (∀(j:Nat) x v,items[j]? =some x->P j v->am U h x v)->eF X U κ h I false [] (items.drop i)
 | pair {fp wr:List Addr} {n:Nat} {Pt:Nat->Array Value->Prop} {St:Nat->Heap->Prop} {Mid:Nat->Addr->Heap->Prop} {i:Nat} {items:List ab}:(∀A,A.handled=none->H1 X.prog X.w A I fp wr n Pt St Mid)->(∀j h,St j h->∀b∈fp,∃o,h.get? b=some o)->(∀j T h,Mid j T h->∀b∈fp,∃o,h.get? b=some o)->
   St i h->items.length=n->i≤n->(∀b∈wr,κ b= .frame I)->(∀b∈fp,b∈wr∨U b)->
   (∀(j:Nat) x vals,items[j]? =some x->Pt j vals->∃vs,x= .tuple vs/\aN U h vs vals.toList)->eF X U κ h I true [] (items.drop i)
 | own {l:Addr} {i:Nat} {vs:List ab}:h.IsListIter I l i->l≠I->κ I= .frame I->eF X U κ h I false [(l,vs)] (vs.drop i)
 | tE {l I2:Addr} {i:Nat} {vs:List ab}:(∃old,IsEnum h I I2 (i:Nat) old)->h.IsListIter I2 l i->l≠I->l≠I2->I≠I2->κ I= .frame I->κ I2= .frame I->i≤vs.length->eF X U κ h I true [(l,vs)] ((lX 0 vs).drop i)
theorem H2(vs:List ab):∀i:Nat,(lX i vs).length=vs.length:=vs.rec (λJ=>rfl) λJ J ih i=>congrArg (λz=>z +1) (ih (i+1))
theorem H3(vs:List ab):∀(i j:Nat) x,(lX i vs)[j]? =some x->∃v,vs[j]? =some v/\x= .tuple [.int (i+j:Nat),v] :=
 vs.rec (λJ J J=>nn) λv J ih i j x=>j.casesOn (λh=>⟨v,rfl,(aM h).symm⟩) λj h=>(ih (i+1) j x h).imp λw h=>⟨h.1,h.2.trans (aa (sR ..) rfl)⟩
section
variable{X:Cx}{n:Nat}{L:Addr}{ae:List Loc}
structure jo(σ:aq)(κ:bI)(I:Addr)(s s':al):Prop where
 keep:∀b o,κ b≠ .frame I->s.heap.get? b=some o->s'.heap.get? b=some o
 H4:∀b o,κ b= .frame I->s.heap.get? b=some o->∃o',s'.heap.get? b=some o'
 os:s'.os=s.os
 gens:s'.gens=s.gens
theorem jo.bb{σ κ I s s'}(t:jo σ κ I s s'):c7 (aj σ κ) s.heap (aj σ κ) s'.heap:=λa o u e=>⟨u,t.keep a o (aa u.2 bW) e⟩
theorem jo.dp{L σ κ I s s'}(t:jo σ κ I s s'):be (λa=>a=L∨a=I) σ κ s.heap σ κ s'.heap :=
 ⟨t.bb,λa o L' e ne g=>⟨e,t.keep a o (λq=>ne (.inr (Tag.frame.inj (e.symm.trans q)))) g⟩,λa o L' e g=>⟨.inl e,if q:κ a= .frame I then t.H4 a o q g else ⟨o,t.keep a o q g⟩⟩⟩
theorem jo.rel{κ I}(R:Rel X L ae st κ s)(t:jo st.σ κ I s s')(hI:I≠L)(vz:∀(i:Nat) l,ae[i]? =some l->κ l.addr≠ .frame I):Rel X L ae st κ s' :=
 ⟨(R.g.step (λa o h e=>⟨rfl,t.keep a o (h I) e⟩) (λJ J e=>e) (λa h=>(R.g.lt a h).elim λo e=>if q:κ a= .frame I then t.H4 a o q e else ⟨o,t.keep a o q e⟩) R.g.fr t.os t.gens).2,
  R.f.Bw (t.dp (L:=I)) (λq=>q.elim (iM hI) (iM hI)) λi l L' hi z q=>vz i l hi (z.trans (congrArg _ (q.elim id id)))⟩
theorem getElem_drop{i:Nat}(h:i<l.length):l.drop i=l[i]::l.drop (i+1):=vA h
theorem SL{I:Addr}{o:Obj}{T:String}{v:Value}{A s}{Q:Unit->al->Prop}(e:s.heap.get? I=some o)(hc:o.cls= .type T)(hT:owners.contains T=false)(q:Q () s) :
  ai X.M A (letOwnedTupleGo target (.ref I) v) Q (λJ J=>False) s:=by
 have m0:ai X.M A (match (m1 I,v) with
  | (.ref r, .ref a)=>do
   let o<-load r
   match o.cls,o.data with
   | .type n, .fields vs =>
    if owners.contains n&&vs[0]? ==some (rawInt a) then
     rule "for.unpacks-the-owned-tuple"
     updateField r 0 .none
    else pure ()
   | _,_=>pure ()
  | _=>pure ()) Q (λJ J=>False) s:=by
  cases v<;>first | exact aY q | skip
  refine aE (u0 e ?_);refine aa hc ?_;cases o.data<;>first | exact aY q | skip
  dsimp only;refine aa hT (aa (H5 ..) ?_);exact aY q
 cases target<;>first | exact aY q | exact m0
structure TurnOk(X:Cx)(σ:aq)(κ:bI)(I:Addr)(aO:Bool)(own:List (Addr×List ab))(s:al)(x:ab)(y:Value)(d0:List ab)(s2:al):Prop where
 t:jo σ κ I s s2
 v:am (aj σ κ) s2.heap x y
 it:eF X (aj σ κ) κ s2.heap I aO own d0
def TurnPost(X:Cx)(A:cA)(σ:aq)(κ:bI)(I:Addr)(target:Expr)(aO:Bool)(own:List (Addr×List ab))(s:al)(b7:List ab)(r:Option Value)(s1:al):Prop:=match r with
 | none=>b7= []/\(∀b o,κ b≠ .frame I->s.heap.get? b=some o->s1.heap.get? b=some o)/\s1.os=s.os/\s1.gens=s.gens
 | some y=>∃x d0,b7=x::d0/\ai X.M A (letOwnedTupleGo target (.ref I) y) (λJ s2=>TurnOk X σ κ I aO own s x y d0 s2) (λJ J=>False) s1
section
variable{σ:aq}{κ:bI}{s s':al}{I:Addr}{A:cA}
theorem jo.of{wr:List Addr}(eG:∀b∈wr,κ b= .frame I)(ft:∀b∈wr,∃o,s'.heap.get? b=some o)(hk:∀b o,b∉wr->s.heap.get? b=some o->s'.heap.get? b=some o)(ho:s'.os=s.os)(hg:s'.gens=s.gens):jo σ κ I s s' :=
 ⟨λb o q e=>hk b o (λm=>q (eG b m)) e,λb o J e=>if q:b∈wr then ft b q else ⟨o,hk b o q e⟩,ho,hg⟩
theorem H6(G:bk X σ κ s){fp wr n Pt}{St:Nat->Heap->Prop}{Mid:Nat->Addr->Heap->Prop}{i:Nat}(W:H1 X.prog X.w A I fp wr n Pt St Mid)(bZ:St i s.heap)(ft:∀j h,St j h->∀b∈wr,∃o,h.get? b=some o)(eG:∀b∈wr,κ b= .frame I)
    {p:Pos} {own:List (Addr×List ab)}  (hn:items.length=n) (hi:i≤n)
  (q:∀T vals s2 x,items[i]? =some x->Pt i vals->aj σ κ T->jo σ κ I s s2->s2.heap.IsTuple T vals->St (i+1) s2.heap->i<n->am (aj σ κ) s2.heap x (.ref T)/\eF X (aj σ κ) κ s2.heap I true own (items.drop (i+1))) :
  ai X.M A (pyNext (.ref I)) (TurnPost X A σ κ I (.Tuple es k p) true own s (items.drop i)) (λJ J=>False) s :=
 if bx:i<n then
  bc (W.item i s _ _ bx bZ λT vals h' tk q0 bJ hT hm hk=>⟨items[i]'(hn▸bx),items.drop (i+1),vA (hn▸bx),bc (W.go es k p i T _ _ _ hm λiG H7 m3 =>
   have t:jo σ κ I s {heap:=iG,gens:=s.gens,drawn:=s.drawn,toks:=tk,os:=s.os}:= .of eG (ft _ _ H7) (λb o q e=>m3 b o q (hk b o q e)) rfl rfl
   have vB:aj σ κ T:=nY λhn=>(G.lt T hn).elim λJ e=>dA.mpr bJ (cR e)
   have r:=q T vals {heap:=iG,gens:=s.gens,drawn:=s.drawn,toks:=tk,os:=s.os} _ (bE (hn▸bx)) q0 vB t (aB hT λoT r1 r2=>⟨oT,m3 T oT (W.apart i T h' hm) r1,r2⟩) H7 bx
   ⟨t,r.1,r.2⟩)⟩)
 else by
  obtain rfl:i=n:=yI hi (dA.mp bx);exact bc (W.done s _ _ bZ λh' tk hk=>⟨tF (bS hn),λb o q e=>hk b o (λm=>q (eG b m)) e,rfl,rfl⟩)
theorem H8{wr:List Addr}{h':Heap}{tk:Tok}{own:List (Addr×List ab)}{i:Nat}{T:String}(hi:i<items.length)(eG:∀b∈wr,κ b= .frame I)(ft:∀b∈wr,∃o,h'.get? b=some o)(hk:∀b o,b∉wr->s.heap.get? b=some o->h'.get? b=some o)
  (hc:∃o,h'.get? I=some o/\o.cls= .type T) (hT:owners.contains T=false) (q:c7 (aj σ κ) s.heap (aj σ κ) h'->am (aj σ κ) s.heap items[i] y/\eF X (aj σ κ) κ h' I false own (items.drop (i+1))) :
  TurnPost X A σ κ I target false own s (items.drop i) (some y) {s with heap:=h',toks:=tk} :=
 have t:jo σ κ I s {s with heap:=h',toks:=tk}:= .of eG ft hk rfl rfl
 hc.elim λJ c=>⟨_,_,vA hi,SL c.1 c.2 hT ⟨t,(q t.bb).1.mono t.bb,(q t.bb).2⟩⟩
end
theorem H9{aO:Bool}{own:List (Addr×List ab)}{b7:List ab}{κ s I}{A}(hh:A.handled=none)(rel:Rel X L ae st κ s)(hg:Guard own st)(it:eF X (aj st.σ κ) κ s.heap I aO own b7)
  (ht:aO=true->∃es k p,target= .Tuple es k p) :
  ai X.M A (pyNext (.ref I)) (TurnPost X A st.σ κ I target aO own s b7) (λJ J=>False) s:=by
 cases it with
 | @one fp wr n P St i items T W iO hT bZ hn hi eG hU hP =>
  by_cases bx:i<n
  ·exact bc ((W A hh).item i s _ _ bx bZ λv h' tk q0 iP hk=>H8 (hn▸bx) eG (λb hb=>(iO _ _ iP).1 b ((W A hh).sub b hb)) hk (iO _ _ iP).2 hT λS=>⟨hP i _ v (bE (hn▸bx)) q0, .one W iO hT iP hn bx eG hU λj x v e p=>(hP j x v e p).mono S⟩)
  ·obtain rfl:i=n:=yI hi (dA.mp bx);exact bc ((W A hh).done s _ _ bZ λh' tk hk=>⟨tF (bS hn),λb o q e=>hk b o (λm=>q (eG b m)) e,rfl,rfl⟩)
 | @pair fp wr n Pt St Mid i items W iO hfm bZ hn hi eG hU hP =>
  refine F' (ht rfl) λes k p n7=> ?_;subst n7;exact H6 rel.g (W A hh) bZ (λj h e b m=>iO j h e b ((W A hh).sub b m)) eG hn hi λT vals s2 x hx q0 vB t hT iP bx =>
   let ⟨vs,hx,aL⟩:=hP i x vals hx q0
   ⟨hx▸ .tuple vB (hT) (aL.mono t.bb), .pair W iO hfm iP hn bx eG hU λj x v e p=>aB (hP j x v e p) λvs q r=>⟨vs,q,r.mono t.bb⟩⟩
 | @own l i vs eZ bt eG =>
  refine aB (rel.g.own l _ (hg (l,vs) (.head _))) λcs hl aL=> ?_
  have aR:=aL.length
  by_cases bx:i<vs.length
  ·refine aB (aL.get (bE bx)) λy hy SM=> ?_;exact bc (SN eZ hl.list (x:=y) (by simpa using hy) λh' vC hs=>H8 (wr:= [I]) (tk:=s.toks) (T:= "list_iterator") bx (λb m=>dL.mp m▸eG) (λb m=>dL.mp m▸aB vC λo e J=>⟨o,e⟩)
    (λb o q e=>hs.extBut b o (λz=>q (z▸ .head _)) e) (kQ vC λo e c J=>⟨o,e,c⟩) (by decide) λS=>⟨SM, .own vC bt eG⟩)
  ·exact bc (PW hh eZ hl.list (by simpa [<-aR] using bx) λh' he=>⟨tF (dA.mp bx),λb o q e=>he b o (λm=>q (m▸eG)) e,rfl,rfl⟩)
 | @tE l I2 i vs vD eZ h1 h2 h3 ht1 ht2 hile =>
  refine F' (ht rfl) λes k p n7=> ?_;subst n7;refine aB (rel.g.own l _ (hg (l,vs) (.head _))) λcs hl aL=>H6 (wr:= [I,I2]) rel.g (SO (prog:=X.prog) (w:=X.w) hh I I2 l h3 h1 h2 cs.toArray) ⟨vD,eZ,hl.list⟩ (λj h e b m=> ?_) (λb m=> ?_) ((H2 vs 0).trans (aL.length)) (by refine aa fE (ao aL.length ?_);exact hile) λT vals s2 x hx q0 vB t hT iP bx=> ?_
  ·obtain ⟨⟨_,e1⟩,⟨_,e2,_⟩,_⟩:=e;exact (bq.mp m).elim (λz=>z▸⟨_,e1⟩) λm=>dL.mp m▸⟨_,e2⟩
  ·exact (bq.mp m).elim (λz=>z▸ht1) λm=>dL.mp m▸ht2
  ·refine jL (q0) λtk x' e1 n7=> ?_;subst n7;refine aB (H3 vs 0 i _ hx) λv e2 bL=> ?_;subst bL;refine aB (aL.get e2) λx2 e4 r4=> ?_;simp only [pG] at e1
   cases aM (e1.symm.trans e4);exact ⟨.tuple vB (by simpa using hT) (.cons (aa (m4 ..) (.int _ _)) (.one (r4.mono t.bb))), .tE iP.1 iP.2.1 h1 h2 h3 ht1 ht2 (by rw [fE,<-aL.length] at bx;exact bx)⟩
theorem eF.dp{aO own b7 I}{st':St}{κ κ'}(it:eF X (aj st.σ κ) κ s.heap I aO own b7)(hI:I≠L)(e:be (λz=>z =L) st.σ κ s.heap st'.σ κ' s'.heap)(hA:∃A:cA,A.handled=none):eF X (aj st'.σ κ') κ' s'.heap I aO own b7:=by
 obtain ⟨A,hA⟩:=hA;cases it with
 | @one fp wr n P St i items T W iO hT bZ hn hi eG hU hP =>
  obtain ⟨ft,_⟩:=iO _ _ bZ
  have kp:∀b∈fp,∀o,s.heap.get? b=some o->s'.heap.get? b=some o:=λb hb o g=>by
   rcases hU b hb with q | u
   ·exact (e.frames b o I (eG b q) hI g).2
   ·exact (e.bb b o u g).2
  exact .one W iO hT ((W A hA).frame _ _ _ bZ kp) hn hi (λb hb=>let ⟨o,g⟩:=ft b ((W A hA).sub b hb);(e.frames b o I (eG b hb) hI g).1)
   (λb hb=>(hU b hb).imp_right λu=>let ⟨o,g⟩:=ft b hb;(e.bb b o u g).1) λj x v q p=>(hP j x v q p).mono e.bb
 | @pair fp wr n Pt St Mid i items W iO hfm bZ hn hi eG hU hP =>
  have ft:=iO _ _ bZ
  have kp:∀b∈fp,∀o,s.heap.get? b=some o->s'.heap.get? b=some o:=λb hb o g=>by
   rcases hU b hb with q | u
   ·exact (e.frames b o I (eG b q) hI g).2
   ·exact (e.bb b o u g).2
  exact .pair W iO hfm ((W A hA).frame _ _ _ bZ kp) hn hi (λb hb=>let ⟨o,g⟩:=ft b ((W A hA).sub b hb);(e.frames b o I (eG b hb) hI g).1)
   (λb hb=>(hU b hb).imp_right λu=>let ⟨o,g⟩:=ft b hb;(e.bb b o u g).1) λj x vals q p=>aB (hP j x vals q p) λvs a b=>⟨vs,a,b.mono e.bb⟩
 | @own l i vs eZ bt eG =>
  exact aB (eZ) λo g r=> .own ⟨o,(e.frames I o I eG hI g).2,r⟩ bt (e.frames I o I eG hI g).1
 | @tE l I2 i vs vD eZ h1 h2 h3 ht1 ht2 hile =>
  obtain ⟨old,g0⟩:=vD;exact aB (eZ) λo g r=> .tE ⟨old,(e.frames I _ I ht1 hI g0).2⟩ ⟨o,(e.frames I2 o I ht2 hI g).2,r⟩ h1 h2 h3 (e.frames I _ I ht1 hI g0).1 (e.frames I2 o I ht2 hI g).1 hile
theorem Rel.m5{κ I}(R:Rel X L ae st κ s)(hI:I≠L)(vz:∀(i:Nat) l,ae[i]? =some l->κ l.addr≠ .frame I)
  (hk:∀b o,κ b≠ .frame I->s.heap.get? b=some o->s'.heap.get? b=some o) (ho:s'.os=s.os) (hg:s'.gens=s.gens) :
  ∃κ',Rel X L ae st κ' s'/\c7 (aj st.σ κ) s.heap (aj st.σ κ') s'.heap/\∀a,κ' a=if κ a= .frame I then .none else κ a :=
 have ne:∀{a},κ a≠ .frame I->(if κ a= .frame I then Tag.none else κ a)=κ a:=λq=>if_neg q
 have pH:∀{a t},(if κ a= .frame I then Tag.none else κ a)=t->t≠ .none->κ a=t/\κ a≠ .frame I:=λ{a t} e h=>if q:κ a= .frame I then absurd ((if_pos q).symm.trans e).symm h else ⟨(ne q).symm.trans e,q⟩
 let ⟨S,G⟩:=R.g.step (s':=s') (κ':=λa=>if κ a= .frame I then Tag.none else κ a) (λa o h e=>⟨ne (h I),hk a o (h I) e⟩) (λd a e=>(pH e bW).1)
  (λa h=>if q:κ a= .frame I then (h ⟨nY λz=>bW ((R.g.excl a z).symm.trans q),if_pos q⟩).elim else (R.g.lt a λu=>h ⟨u.1,(ne q).trans u.2⟩).imp λo e=>hk a o q e)
  (λa L' e=>have z:=pH e bW;(ne λy=>z.2 (z.1.trans ((R.g.fr a L' z.1).symm.trans y))).trans (R.g.fr a L' z.1)) ho hg
 ⟨_,⟨G,R.f.Bu (ex:=(λz=>z =I)) S (λa o L' e q g=>have h:κ a≠ .frame I:=λz=>q (Tag.frame.inj (e.symm.trans z));⟨(ne h).trans e,hk a o h g⟩) (iM hI) λi l L' hi z q=>vz i l hi (z.trans (congrArg _ q))⟩,S,λJ=>rfl⟩
end
end
section
variable{X:Cx}{n:Nat}{L:Addr}{ae:List Loc}{ac:Env}{c:CT}
theorem Rel.store{κ}{i:Nat}{l:Loc}(R:Rel X L ae st κ s)(hi:ae[i]? =some l)(jS:i∉st.fz)(hv:am (aj st.σ κ) s.heap v y)
  (hs:iI l.addr s.heap s'.heap) (tC:lO s'.heap l y) (SP:∀(j:Nat) l' z,ae[j]? =some l'->j≠i->lO s.heap l' z->lO s'.heap l' z) (hW:∀(j:Nat) l',ae[j]? =some l'->j∉st.fz->pj L s'.heap l') (SQ:∃ml,s'.heap.Ns L ml)
  (ho:s'.os=s.os) (hg:s'.gens=s.gens):Rel X L ae {st with m:=st.m.set i (some v)} κ s'/\be (λz=>z =L) st.σ κ s.heap st.σ κ s'.heap:=by
 have jp:κ l.addr= .frame L:=(R.f.wr i l hi jS).1
 have ft:∃o,s'.heap.get? l.addr=some o:=tC.some
 have k:∀b o,b≠l.addr->s.heap.get? b=some o->s'.heap.get? b=some o:=λb o q e=>(hs.2 b q).trans e
 have F:=R.f
 have H':∀a,κ a≠ .frame L->a≠l.addr:=λa q z=>q (z▸jp)
 have G:=R.g.step (κ':=κ) (λa o h e=>⟨rfl,k a o (H' a (h L)) e⟩) (λJ J e=>e) (λa h=>if q:a=l.addr then q▸ft else (R.g.lt a h).imp λo e=>k a o q e) R.g.fr ho hg
 have S:=G.1
 refine ⟨⟨G.2,{
  tag:=F.tag
  ns:=SQ
  len:=kl.trans F.len
  lt:=λj l' e=>if z:l'.addr=l.addr then z▸ft else (F.lt j l' e).imp λo q=>k _ o z q
  vals:=λj w e=>by
   by_cases hj:j=i
   ·subst hj
    have bx:j<st.m.length:=F.len▸(dr.mp hi).1
    simp only [vE bx,aha] at e
    subst e;exact ⟨l,y,hi,tC,hv.mono S⟩
   ·simp only [Cg (iM hj)] at e
    exact eR (F.vals j w e) λl' z a b cc=>⟨l',z,a,SP j l' z a hj b,cc.mono S⟩
  rd:=F.rd
  wr:=λj l' e q=>⟨(F.wr j l' e q).1,hW j l' e q⟩
  nodup:=F.nodup}⟩,S,λa o L' e ne g=>⟨e,k a o (H' a λq=>ne (Tag.frame.inj (e.symm.trans q))) g⟩,λa o L' e g=>⟨.inl e,if q:a=l.addr then q▸ft else ⟨o,k a o q g⟩⟩⟩
theorem Ch(EO:dK X ac L ae c){i:Nat}{K:St->Prop}{κ s A}(hc:jO c x=some i)(rel:Rel X L ae st κ s)(hv:am (aj st.σ κ) s.heap v y)(h:pz i v st K) :
  ai X.M A (storeName ac x y) (Post X L ae st.σ κ s.heap hH (λJ=>K)) (λJ J=>False) s:=by
 refine h.of λvF hK=> ?_
 have jS:=Qn vF
 obtain ⟨hb,hk⟩:=HK hc;refine aB (EO.idx x i hb hk.1 hk.2) λl hl nM=> ?_
 have F:=rel.f
 obtain ⟨jp,hw⟩:=F.wr i l hl jS;obtain ⟨ml,vG⟩:=F.ns;rcases nM with ⟨SR,rfl⟩ | ⟨vH,a,ha,rfl⟩
 ·have hp:(ac.scope.kind== .class || (ac.scope.kind== .module&&ac.locals != ac.globals))=false:=by refine aa EO.kind ?_;rfl
  refine PR SR (EO.locals▸vG) (λh' hn hs=> ?_) hp;rw [EO.locals] at hn hs
  obtain ⟨r,e⟩:=rel.store (s':={s with heap:=h',toks:=s.toks+1}) (y:=y) hl jS hv hs ⟨_,hn,by simp⟩ (λj l' z hj ne hz=>by
   cases l' with
   | loc b w =>
    by_cases hb:b=L
    ·subst hb;refine aB (hz) λm2 tG q5=> ?_
     have SS:w≠x:=λq=>ne (F.nodup i j _ jS hl (ao q hj)).symm
     refine ⟨_,hn, ?_⟩;simp only [SS,if_false]
     have e1:=SU vG tG w
     exact aa e1 q5
    ·exact hz.keeps λo g=>(hs.2 b hb).trans g
   | cell b =>
    have hb:b≠L:=λq=>by
     by_cases hf:j∈st.fz
     ·rcases F.rd j _ hj hf with u | ⟨L',bt,ht⟩
      ·have:=u.2;rw [show (Loc.cell b).addr=L from q,F.tag] at this;exact bW this
      ·rw [show (Loc.cell b).addr=L from q,F.tag] at ht;cases ht;exact bt.1 rfl
     ·exact (F.wr j _ hj hf).2.1 q
    exact hz.keeps λo g=>(hs.2 b hb).trans g) (λj l' hj hf=>by
    have:=(F.wr j l' hj hf).2
    cases l' with
    | loc b w=>exact this
    | cell b=>exact pj.keeps this λo g=>(hs.2 b this.1).trans g) ⟨_,hn⟩ rfl rfl
  exact ⟨(),{st with m:=st.m.set i (some v)},κ,r,e,trivial,hK⟩
 ·have SV:∃v0,s.heap.IsCell a v0:=hw.2
  obtain ⟨v0,Ia⟩:=SV
  have bg:∀h',h'.IsCell a (some y)->iI a s.heap h'->Post X L ae st.σ κ s.heap hH (λJ=>K) () {s with heap:=h'}:=λh' yJ hs=>by
   have bt:∀(j:Nat) l',ae[j]? =some l'->j≠i->l'.addr≠a:=λj l' hj ne q=>by
    cases l' with
    | loc b w =>
     by_cases hf:j∈st.fz
     ·rcases F.rd j _ hj hf with u | ⟨L',bt,ht⟩
      ·have:=u.2;rw [q] at this;rw [show κ a= .frame L from jp] at this;exact bW this
      ·rw [q,show κ a= .frame L from jp] at ht;cases ht;exact bt.1 rfl
     ·exact hw.1 (ao (show b=a from q) ((F.wr j _ hj hf).2))
    | cell b=>exact ne (F.nodup i j _ jS hl (ao (show b=a from q) hj)).symm
   obtain ⟨r,e⟩:=rel.store (s':={s with heap:=h'}) (y:=y) hl jS hv hs yJ (λj l' z hj ne hz=>hz.keeps λo g=>(hs.2 _ (bt j l' hj ne)).trans g) (λj l' hj hf=>by
    by_cases q:j=i
    ·subst q;rw [hl] at hj;cases hj;exact ⟨hw.1,_,yJ⟩
    ·exact pj.keeps (F.wr j l' hj hf).2 λo g=>(hs.2 _ (bt j l' hj q)).trans g) ⟨ml,vG.sameBut hs (iM hw.1)⟩ rfl rfl
   exact ⟨(),{st with m:=st.m.set i (some v)},κ,r,e,trivial,hK⟩
  rcases vH with q6 | q6
  ·exact PS EO.kind q6 ha Ia bg
  ·exact storeName_free EO.kind q6 ha Ia bg
where
 SU {h:Heap} {a:Addr} {m m':Str->Option Value} (x:h.Ns a m) (y:h.Ns a m') (w:Str):m w=m' w:=by
  refine qF (x) λo es ep e d J f=>qF (y) λo' Ib Ic e' d' J f'=> ?_;rw [e] at e';cases e'
  rw [d] at d';cases d'
  exact sL (f w) (f' w) rfl
theorem Ci(EO:dK X ac L ae c){i:Nat}{K:St->Prop}{κ s A}(hc:jO c x=some i)(rel:Rel X L ae st κ s)(hv:am (aj st.σ κ) s.heap v y)(h:pz i v st K) :
  ai X.M A (assign (.Name x pos) ac y) (Post X L ae st.σ κ s.heap hH (λJ=>K)) (λJ J=>False) s:=Pn (Ch EO hc rel hv h)
end
section
variable {gd:List Nat}{aO:Bool}
section
variable{X:Cx}{A:cA}{E:Value->al->Prop}{s:al}
theorem SW{it t:Addr}{items:Array Value}(bt:t≠it)(n:Nat):∀(i:Nat) (s:al) (Q:List Value->al->Prop),s.heap.IsListIter it t i->s.heap.IsList t items->i+n≤items.size->
  (∀h',h'.IsListIter it t (i+n)->iI it s.heap h'->Q ((items.toList.drop i).take n) {s with heap:=h'})->ai X.M A (draw (.ref it) n) Q E s:=by
 induction n with
 | zero=>exact λi s Q eZ J J hQ=>aY (hQ s.heap eZ (ahb ..))
 | succ n ih =>
  intro i s Q eZ ht c9 hQ
  have bx:i<items.size:=et (yK n.succ_pos) c9
  refine aE (bc (SN eZ ht (x:=items[i]) (SX bx) λbM Cj gy=> ?_));refine aE (cj (ih (i+1) _ _ Cj (ht.extBut gy.extBut bt) (sR i 1 n▸c9) λcM SY q7=>aY ?_))
  have:=hQ cM (sR i n 1▸SY) (gy.trans q7)
  rwa [vA (bx),Ie] at this
theorem Ig{t:Addr}{items:Array Value}{Q:Unit->al->Prop}(hh:A.handled=none)(ht:s.heap.IsList t items)(hn:targets.length=items.size)(qL:targets.findIdx? (λz=>z.1)=none)
  (h:∀h',Bn s.heap.objs.size s.heap h'->ai X.M A (assignInOrder (targets.map (λz=>z.2)) items.toList) Q E {s with heap:=h'}):ai X.M A (unpack (.ref t) targets) Q E s:=by
 have bx:t≠s.heap.objs.size:=by obtain ⟨o,ho,_⟩:=ht;exact dz (cR ho)
 unfold unpack;refine aH hn qL (aE (cj ?_));refine aE (fB (λq=>PL ht.typeIs slot_list_iter.lookup q) ?_);refine aY ?_;simp only [Ck,if_false];refine fB (λq=>cj (Br ht q)) (aE (cj (SW bx items.size 0 _ _ ⟨_,cV _ rfl,rfl,rfl⟩ (ht.push _) (bS (m4 _)) λbM Cj gy=> ?_)))
 have mJ:List.take items.size (List.drop 0 items.toList)=items.toList:=by
  exact aa yL (q8 (by simp))
 refine aa mJ (aa (if_neg (by simp)) ?_)
 have SZ:bM.IsList t items:=(ht.push _).extBut gy.extBut bx
 refine aE (cj (PV hh Cj SZ (by simp) λcM S0=> ?_));simp only [S5,Ck,if_false];exact aY (h cM λb o hb e=>S0 b o hb (gy.extBut b o hb (fq _ e)))
end
section
variable{X:Cx}{n:Nat}{L:Addr}{ae:List Loc}{ac:Env}{c:CT}
theorem Cm{h h':Heap}(x:Bn h.objs.size h h'):∀b o,h.get? b=some o->h'.get? b=some o:=λb o e=>x b o (dz (cR e)) e
theorem Ih{κ s A}{Q:Unit->al->Prop}(hr:cG n A)(rel:Rel X L ae st κ s)(hv:am (aj st.σ κ) s.heap v y)(hs:eV st.σ v=some vs)
  (hn:targets.length=vs.length) (qL:targets.findIdx? (λz=>z.1)=none)
  (h:∀s' ys,Rel X L ae st κ s'->be (λz=>z =L) st.σ κ s.heap st.σ κ s'.heap->aN (aj st.σ κ) s'.heap vs ys->ai X.M A (assignInOrder (targets.map (λz=>z.2)) ys) Q (λJ J=>False) s'):ai X.M A (unpack y targets) Q (λJ J=>False) s:=by
 have bg:∀(ys:List Value),aN (aj st.σ κ) s.heap vs ys->∀h',Bn s.heap.objs.size s.heap h'->ai X.M A (assignInOrder (targets.map (λz=>z.2)) ys) Q (λJ J=>False) {s with heap:=h'}:=λys hy h' hx =>
  h _ ys (rel.ext (Cm hx) rfl rfl) (.ext (Cm hx)) (hy.mono (gI (Cm hx)))
 refine eV.of (C:=λv=>am (aj st.σ κ) s.heap v y->ai X.M A (unpack y targets) Q (λJ J=>False) s) hs (λhv=> ?_) (λhv=> ?_) (λa q hv=> ?_) hv
 ·refine eK (hv.inv) λa items bL u hl aL=> ?_;subst bL;exact Ig hr.handled hl (hn.trans aL.length) qL (bg _ aL)
 ·refine eK (hv.inv) λa items bL u hl aL=> ?_;subst bL;exact Ps hr.handled hl (hn.trans aL.length) qL (bg _ aL)
 ·refine aB (rel.g.own a _ q) λitems hl aL=> ?_;cases hv.bQ;exact Ig hr.handled hl.list (hn.trans aL.length) qL (bg _ aL)
theorem Cn{r:Str×Pos}(h:nameP e=some r):e= .Name r.1 r.2:=by
 rcases e with ⟨⟩<;>first | exact nn h | exact aM h▸rfl
theorem S8(h:nameOf e=some x):∃p,e= .Name x p :=
 eM (P:=λx=>∃p,e= .Name x p) (λr h=>⟨r.2,Cn h⟩) h
theorem Co{i:Nat}(h:cN c e=some i):∃x p,e= .Name x p/\jO c x=some i :=
 let ⟨x,h1,h2⟩:=cQ.mp h
 let ⟨p,e⟩:=S8 h1
 ⟨x,p,e,h2⟩
theorem mn{f:α->Option β}{r:List β}{C:List β->Prop}(k:C [])(h: [].mapM f=some r):C r:=ao (aM (List.mapM_nil.symm.trans h)) k
theorem mc{f:α->Option β}{a:α}{r:List β}{C:List β->Prop}(k:∀b bs,f a=some b->l.mapM f=some bs->C (b::bs))(h:(a::l).mapM f=some r):C r :=
 let ⟨b,h1,h⟩:=cQ.mp (List.mapM_cons.symm.trans h)
 let ⟨bs,h2,h⟩:=cQ.mp h
 ao (aM h) (k b bs h1 h2)
theorem S9(EO:dK X ac L ae c){K:St->Prop}{A}:∀{is:List Nat} {vs:List ab} {ys:List Value} {st:St} {κ s},es.mapM (cN c)=some is->
  Rel X L ae st κ s->aN (aj st.σ κ) s.heap vs ys->gh is vs st K->
  ai X.M A (assignInOrder ((assignEach es ac).map (λz=>z.2)) ys) (Post X L ae st.σ κ s.heap hH (λJ=>K)) (λJ J=>False) s:=by
 induction es with
 | nil =>
  refine λ{is vs ys st κ s} hc rel hv=>mn (C:=λis=>gh is vs st K->_) (λh=> ?_) hc;cases vs with
  | nil=>exact aY (.same (b:=()) rel rfl rfl rfl trivial h)
  | cons v vs=>exact h.elim
 | cons e es ih =>
  refine λ{is vs ys st κ s} hc rel hv=>mc (C:=λis=>gh is vs st K->_) (λi is h1 h2 h=> ?_) hc;refine jL (Co h1) λx p bL hi=> ?_;subst bL;cases vs with
  | nil=>exact h.elim
  | cons v vs =>
   refine eR hv.cons_inv λy zs n7 jq hV=> ?_;subst n7;exact aE (cj (weak (Ci EO hi rel jq h) λJ s1 p=>p.casesOn λJ aw ay r1 e1 J k1=>weak (ih h2 r1 (hV.mono e1.bb) k1) λJ J p=>p.trans e1))
theorem Ii:∀{is:List Nat},es.mapM (cN c)=some is->(assignEach es ac).length=is.length/\(assignEach es ac).findIdx? (λz=>z.1)=none:=by
 induction es with
 | nil=>exact λ{is}=>mn (C:=λis=>0=is.length/\_) ⟨rfl,rfl⟩
 | cons e es ih =>
  refine λ{is}=>mc (C:=λis=>(assignEach (e::es) ac).length=is.length/\_) λi is h1 h2=>jL (Co h1) λx p bL hi=> ?_;subst bL;exact ⟨congrArg (λz=>z +1) (ih h2).1,Ta.trans (aa (show List.findIdx? _ _=none from (ih h2).2) rfl)⟩
theorem Tb{K:St->Prop}{is:List Nat}:∀{vs:List ab} {st:St},gh is vs st K->is.length=vs.length:=by
 induction is with
 | nil=>exact λ{vs _} h=>by cases vs;rfl;exact h.elim
 | cons i is ih=>exact λ{vs _} h=>by cases vs;exact h.elim;exact cX.of h λJ k=>congrArg (λz=>z +1) (ih k)
theorem Ij{P:List Nat->Bool->Prop}(a:∀i,cN c e=some i->P [i] false)(b:∀es k p is,e= .Tuple es k p->es.mapM (cN c)=some is->P is true)(h:kU c e=some (gd,aO)):P gd aO:=by
 unfold kU at h
 by_cases q:d9 e.ctorIdx 25=true
 ·rw [if_pos q] at h
  refine eM (P:=λr=>P r.1 r.2) (λis h=> ?_) h;rcases e with ⟨⟩<;>first | exact ff q | exact b _ _ _ _ rfl h
 ·rw [if_neg q] at h
  exact eM (P:=λr=>P r.1 r.2) (λi h=>a i h) h
theorem Ik(EO:dK X ac L ae c){K:St->Prop}{κ s A}(hr:cG n A)(hc:kU c target=some (gd,aO))(rel:Rel X L ae st κ s)(hv:am (aj st.σ κ) s.heap v y)
  (h:pA gd aO v st K):ai X.M A (assign target ac y) (Post X L ae st.σ κ s.heap hH (λJ=>K)) (λJ J=>False) s:=by
 refine Ij (P:=λgd aO=>pA gd aO v st K->_) (λi hi h=> ?_) (λes k p is e Cp h=> ?_) hc h
 ·refine jL (Co hi) λx p bL hi=> ?_;subst bL;exact Ci EO hi rel hv h
 ·subst e;exact aB (bB.ex h) λvs hs bZ=>aa (Tc ..) (aE (g8 (Ih hr rel hv hs ((Ii Cp).1.trans (Tb bZ)) (Ii Cp).2 λs' ys r1 e1 hy=>weak (S9 EO Cp r1 hy bZ) λJ J p=>p.trans e1)))
theorem Il(hc:kU c target=some (gd,aO)):aO=true->∃es k p,target= .Tuple es k p :=
 Ij (P:=λJ aO=>aO=true->∃es k p,target= .Tuple es k p) (λJ J h=>ff h) (λes k p J e J J=>⟨es,k,p,e⟩) hc
end
end
section
variable{X:Cx}{n:Nat}{L:Addr}{ae:List Loc}{ac:Env}{c:CT}
noncomputable def fS(κ:bI)(fT:List Addr)(I:Addr):bI:=λa=>if a∈fT then .frame I else κ a
theorem bk.tag{σ κ}(G:bk X σ κ s)(fT:List Addr)(I:Addr)(hI:I∈fT)(hp:∀a∈fT,s.heap.objs.size≤a/\∃o,s'.heap.get? a=some o)
  (k:∀b o,s.heap.get? b=some o->s'.heap.get? b=some o) (ho:s'.os=s.os) (hg:s'.gens=s.gens) :
  bk X σ (fS κ fT I) s'/\be (λJ=>False) σ κ s.heap σ (fS κ fT I) s'.heap/\∀a,(∃o,s.heap.get? a=some o)->fS κ fT I a=κ a :=
 have old:∀a o,s.heap.get? a=some o->fS κ fT I a=κ a:=λa o e=>if_neg λq=>dA.mpr (hp a q).1 (cR e)
 have at_:∀a,¬ aj σ κ a->fS κ fT I a=κ a:=λa u=>(G.lt a u).elim (old a)
 have ⟨S,G'⟩:=G.step (s':=s') (κ':=fS κ fT I) (λa o J e=>⟨old a o e,k a o e⟩) (λd a e=>if q:d∈fT then bW ((if_pos q).symm.trans e) else (if_neg q).symm.trans e)
  (λa h=>if q:a∈fT then (hp a q).2 else (G.lt a λu=>h ⟨u.1,(if_neg q).trans u.2⟩).imp (k a))
  (λa L' e=>if q:a∈fT then Tag.frame.inj ((if_pos q).symm.trans e)▸if_pos hI else
   have z:=G.fr a L' ((if_neg q).symm.trans e);(at_ L' λu=>bW (u.2.symm.trans z)).trans z) ho hg
 ⟨G',⟨S,λa o L' q J g=>⟨(old a o g).trans q,k a o g⟩,λa o L' q g=>⟨.inl ((old a o g).trans q),o,k a o g⟩⟩,λa h=>h.elim (old a)⟩
theorem Rel.tag{κ}(R:Rel X L ae st κ s)(fT:List Addr)(I:Addr)(hI:I∈fT)(hp:∀a∈fT,s.heap.objs.size≤a/\∃o,s'.heap.get? a=some o)
  (k:∀b o,s.heap.get? b=some o->s'.heap.get? b=some o) (ho:s'.os=s.os) (hg:s'.gens=s.gens) :
  Rel X L ae st (fS κ fT I) s'/\be (λJ=>False) st.σ κ s.heap st.σ (fS κ fT I) s'.heap/\(∀(i:Nat) l,ae[i]? =some l->fS κ fT I l.addr≠ .frame I)/\I≠L/\∀a,(∃o,s.heap.get? a=some o)->fS κ fT I a=κ a :=
 o4 (R.g.tag fT I hI hp k ho hg) λG e old =>
 have Im:∀o,s.heap.get? I≠some o:=λJ g=>dA.mpr (hp I hI).1 (cR g)
 ⟨⟨G,R.f.dp e⟩,e,λi l hi q=>have z:=R.g.fr _ _ ((old _ (R.f.lt i l hi)).symm.trans q);(R.g.lt I λu=>bW (u.2.symm.trans z)).elim Im,
  λq=>Be R.f.ns λJ o J J g J=>Im o (q▸g),old⟩
theorem Rel.yM{κ}(R:Rel X L ae st κ s)(o:Obj)(hf:o.isFreed=false:=by rfl):Rel X L ae st (fS κ [s.heap.objs.size] s.heap.objs.size) {s with heap:=s.heap.push o}/\
  be (λJ=>False) st.σ κ s.heap st.σ (fS κ [s.heap.objs.size] s.heap.objs.size) (s.heap.push o)/\(∀(i:Nat) l,ae[i]? =some l->fS κ [s.heap.objs.size] s.heap.objs.size l.addr≠ .frame s.heap.objs.size)/\s.heap.objs.size≠L/\
  ∀a,(∃o,s.heap.get? a=some o)->fS κ [s.heap.objs.size] s.heap.objs.size a=κ a :=
 R.tag (s':={s with heap:=s.heap.push o}) [s.heap.objs.size] s.heap.objs.size (.head _) (λa q=>aa (dL.mp q) (⟨cb _,_,cV _ hf⟩)) (er _ _) rfl rfl
inductive jT(X:Cx)(L:Addr)(ae:List Loc)(st:St)(κ:bI)(h:Heap)(aO:Bool)(own:List (Addr×List ab))(items:List ab)(y:Value)(s1:al):Prop
 | mk (I:Addr) (ay:bI):y= .ref I->h.get? I=none->Rel X L ae st ay s1->be (λJ=>False) st.σ κ h st.σ ay s1.heap->eF X (aj st.σ ay) ay s1.heap I aO own items->I≠L->(∀(i:Nat) l,ae[i]? =some l->ay l.addr≠ .frame I)->(∃o,s1.heap.get? I=some o)->(∀b o,h.get? b=some o->s1.heap.get? b=some o)->jT X L ae st κ h aO own items y s1
theorem Cq{h:Heap}(q:h.objs.size≤a):h.get? a=none:=by
 cases z:h.get? a with
 | none=>rfl
 | some o=>exact absurd (cR z) (dA.mpr q)
theorem Cr(h:Heap):h.get? h.objs.size=none:=Cq (cb _)
theorem Td(n:Nat):∀a:Int,(kY a n).length=n:=n.rec (λJ=>rfl) λJ ih a=>congrArg (λz=>z +1) (ih (a+1))
theorem Te(n:Nat):∀(a:Int) (j:Nat) x,(kY a n)[j]? =some x->x= .int (a+j) :=
 n.rec (λJ J J=>nn) λJ ih a j x=>j.casesOn (λh=>(aM h).symm.trans (congrArg ab.int (Tf a).symm)) λj h=>(ih (a+1) j x h).trans (congrArg ab.int (by refine aa (Tg ..) ?_;rewrite [vI 1];rfl))
theorem Th{κ s A}(rel:Rel X L ae st κ s)(hv:am (aj st.σ κ) s.heap v y)(hs:th st.σ v=some vs) :
  ai X.M A (pyIter y) (jT X L ae st κ s.heap false (ownOf st.σ v) vs) (λJ J=>False) s:=by
 have one:∀{T:String} {Io:Array Value} {fp:List Addr} {P:Nat->Value->Prop} {tH:Nat->Heap->Prop} {n:Nat},owners.contains T=false->vs.length=n->
   (∀A,A.handled=none->Cf X.prog X.w A s.heap.objs.size (s.heap.objs.size::fp) [s.heap.objs.size] n P tH)->
   (∀j h,tH j h->(∃o,h.get? s.heap.objs.size=some o/\o.cls= .type T)/\∀b∈fp,∃o,h.get? b=some o)->(∀b∈fp,aj st.σ κ b/\∃o,s.heap.get? b=some o)->
   tH 0 (s.heap.push {cls:= .type T,data:= .fields Io})->(∀(j:Nat) x v,vs[j]? =some x->P j v->am (aj st.σ κ) s.heap x v)->
   jT X L ae st κ s.heap false [] vs (.ref s.heap.objs.size) {s with heap:=s.heap.push {cls:= .type T,data:= .fields Io}}:=λhT hn W iO hU bZ hP =>
  sM (rel.yM {cls:= .type _,data:= .fields _}) λr e h1 h2 J =>
  ⟨_,_,rfl,Cr _,r,e,eF.one (i:=0) W (λj h q=>⟨λb hb=>(bq.mp hb).elim (λz=>aa z ((iO j h q).1.imp λJ r=>r.1)) ((iO j h q).2 b),(iO j h q).1⟩) hT bZ hn (da _) (λb hb=>if_pos hb)
   (λb hb=>(bq.mp hb).imp dL.mpr λhb=>(hU b hb).2.elim λo g=>(e.bb b o (hU b hb).1 g).1) λj x v q p=>(hP j x v q p).mono e.bb,h2,h1,⟨_,cV _ rfl⟩,er _ _⟩
 have seq:∀{cs:List Value} {a:Addr} {o:Obj},aN (aj st.σ κ) s.heap vs cs->aj st.σ κ a->s.heap.get? a=some o->a≠s.heap.objs.size/\(∀b∈ [a],aj st.σ κ b/\∃o,s.heap.get? b=some o)/\∀(j:Nat) x v,vs[j]? =some x->cs.toArray[j]? =some v->am (aj st.σ κ) s.heap x v :=
  λaL u g=>⟨dz (cR g),λb hb=>dL.mp hb▸⟨u,_,g⟩,λj x v q p=>aB (aL.get q) λx' q' r'=>aM (q'.symm.trans (by simpa using p))▸r'⟩
 refine th.of (C:=λv=>am (aj st.σ κ) s.heap v y->ai X.M A (pyIter y) (jT X L ae st κ s.heap false (ownOf st.σ v) vs) (λJ J=>False) s) hs (λb e hv=> ?_) (λhv=> ?_) (λhv=> ?_) (λa q hv=> ?_) hv
 ·obtain ⟨t,rfl⟩:=hv.inv;subst e;exact bc <| Ti (one (fp:= []) (P:=λi v=>∃c u,b.toArray[i]? =some c/\v= .int (c.toNat:Int) u) (tH:=λi h=>Tj h s.heap.objs.size b.toArray t i) (by decide) (aC _) (λA hA=>ahc hA s.heap.objs.size b.toArray t)
   (λj h q=>⟨kQ q λo e c J=>⟨o,e,c⟩,λJ hb=>nomatch hb⟩) (λJ hb=>nomatch hb) ⟨_,cV _ rfl,rfl,rfl⟩ λj x v q ⟨cc,u,p1,p2⟩=>p2▸by
    rw [dZ,cW,show b[j]? =some cc by simpa using p1] at q
    exact aM q▸ .int _ _)
 ·obtain ⟨a,cs,rfl,u,hl,aL⟩:=hv.inv
  have eE:=hl
  obtain ⟨o,g,_⟩:=eE;obtain ⟨bt,hU,hP⟩:=seq aL u g;exact Br hl (one (fp:= [a]) (P:=λi v=>cs.toArray[i]? =some v) (tH:=λi h=>h.IsListIter s.heap.objs.size a i/\h.IsList a cs.toArray) (by decide) aL.length (λA hA=>Ip hA s.heap.objs.size a bt cs.toArray)
   (λj h q=>⟨kQ q.1 λo e c J=>⟨o,e,c⟩,λb hb=>dL.mp hb▸aB q.2 λo e J=>⟨o,e⟩⟩) hU ⟨⟨_,cV _ rfl,rfl,rfl⟩,hl.push _⟩ hP)
 ·obtain ⟨a,cs,rfl,u,hl,aL⟩:=hv.inv
  have eE:=hl
  obtain ⟨o,g,_⟩:=eE;obtain ⟨bt,hU,hP⟩:=seq aL u g;exact PJ hl (one (fp:= [a]) (P:=λi v=>cs.toArray[i]? =some v) (tH:=λi h=>h.IsTupleIter s.heap.objs.size a i/\h.IsTuple a cs.toArray) (by decide) aL.length (λA hA=>ahd hA s.heap.objs.size a bt cs.toArray)
   (λj h q=>⟨kQ q.1 λo e c J=>⟨o,e,c⟩,λb hb=>dL.mp hb▸aB q.2 λo e J=>⟨o,e⟩⟩) hU ⟨⟨_,cV _ rfl,rfl,rfl⟩,hl.push _⟩ hP)
 ·refine aB (rel.g.own a _ q) λcs hl aL=> ?_;cases hv.bQ;exact sM (rel.yM {cls:= .type "list_iterator",data:= .fields #[.ref a, .int 0 0]}) λr e h1 h2 h3=>aa (yi q) (Br hl.list ⟨_,_,rfl,Cr _,r,e,eF.own (i:=0) (vs:=vs) ⟨_,cV _ rfl,rfl,rfl⟩ (aB hl λo e J=>dz (cR e)) (if_pos (.head _)),h2,h1,⟨_,cV _ rfl⟩,er _ _⟩)
end
section
variable{X:Cx}{n:Nat}{L:Addr}{ae:List Loc}{ac:Env}{c:CT}{scope:nI}
theorem b1{C:β->Prop}{f:α->β}{x:Option α}{r:β}(k:∀a,x=some a->C (f a))(h:(x>>=λa=>pure (f a))=some r):C r:=by
 rcases x with _ | a
 ·exact nn h
 ·exact ao (aM h) (k a rfl)
theorem b2{γ:Type}{C:γ->Prop}{f:α->β->γ}{x:Option α}{y:Option β}{r:γ}(k:∀a b,x=some a->y=some b->C (f a b))(h:(x>>=λa=>y>>=λb=>pure (f a b))=some r):C r:=by
 rcases x with _ | a
 ·exact nn h
 ·exact b1 (λz=>k a z rfl) h
theorem b3{γ δ:Type}{C:δ->Prop}{f:α->β->γ->δ}{x:Option α}{y:Option β}{z:Option γ}{r:δ}(k:∀a b c,x=some a->y=some b->z=some c->C (f a b c))(h:(x>>=λa=>y>>=λb=>z>>=λc=>pure (f a b c))=some r):C r:=by
 rcases x with _ | a
 ·exact nn h
 ·exact b2 (λz b9=>k a z b9 rfl) h
noncomputable def m6(c:CT)(scope:nI)(oi:List (Str×Nat)):CT:={names:=scope.names,idx:=dq scope.names c.n++oi,G:=c.G,n:=c.n+(dq scope.names c.n).length,lam:=false}
noncomputable def vJ(k:Nat)(c:CT)(ifs:List Expr):Option (Option IB):=GL (cB k c) ifs
theorem yN{x:α}(h:u8 l=some x):l= [x]:=by
 rcases l with _ | ⟨a,_ | _⟩<;>first | exact nn h | exact aM h▸rfl
theorem Tk{r}(h:GJ e=some r):e= .Compare r.1 r.2.1 r.2.2.1 r.2.2.2:=by
 rcases e with ⟨⟩<;>first | exact nn h | exact aM h▸rfl
theorem Tl{a:sW}(h1:a.posonlyargs= [])(h2:a.vararg=none)(h3:a.kwonlyargs= [])(h4:a.kw_defaults= [])(h5:a.kwarg=none)(h6:a.defaults= []):a=⟨[],a.args,none,[],[],none,[]⟩:=by
 rcases a with ⟨_,_,_,_,_,_,_⟩
 cases h1;cases h2;cases h3;cases h4;cases h5;cases h6;rfl
theorem Tm{P:sW->Expr->IE->Prop}(a:∀p q ps p1 p2 p3 i,c.lam=true->(p==q)=false->yg p q scope=true->gJ p=false->gJ q=false->c.names.lookup q=some .cell->c.idx.lookup q=some i->
  P ⟨[],[⟨p,none,ps⟩],none,[],[],none,[]⟩ (.Compare (.Name p p1) [.Eq] [.Name q p2] p3) (.lam i)) {args:sW} {body:Expr} {i:IE} (h:Bz c args body scope=some i):P args body i:=by
 obtain ⟨g,h⟩:=mV h;obtain ⟨⟨p,an,ps⟩,e1,h⟩:=cQ.mp h;obtain ⟨⟨l,os,rs,p3⟩,e2,h⟩:=cQ.mp h;obtain ⟨⟨p',p1⟩,e3,h⟩:=cQ.mp h;refine aB (cQ.mp h) λo e4 h=>aB (cQ.mp h) λr e5 h=> ?_;obtain ⟨⟨q,p2⟩,e6,h⟩:=cQ.mp h;obtain ⟨g2,h⟩:=mV h;refine eM (λj h8=> ?_) h;clear h;simp only [q9,l0,beq_iff_eq,yO,Cs] at g g2
 obtain ⟨⟨⟨⟨⟨⟨⟨⟨h1,h2⟩,h3⟩,h4⟩,h5⟩,h6⟩,h7⟩,h9⟩,km⟩:=g2
 have h:=a p q ps p1 p2 p3 j h3 h5 h6 h7 h9 km h8
 refine aa (Tk e2) (aa (Cn e3) (aa (yN e4) (aa (yN e5) (aa (Cn e6) (aa h2 (aa (Tl g.1.1.1.1.1 g.1.1.1.1.2 g.1.1.1.2 g.1.1.2 g.1.2 g.2) (aa (yN e1) (aa h1 (ao h4 ?_)))))))));exact h
theorem Tn{p:Prop} [Decidable p]{x:Option α}{r:α}(h:(if p then x else none)=some r):x=some r:=by
 by_cases q:p
 ·exact (if_pos q).symm.trans h
 ·exact nn ((if_neg q).symm.trans h)
theorem Iq{cF:Expr}{p:Pos}{P:List uZ->IE->Prop}(comp:∀t it ifs gw oi cond tg aO ie,cI k c it=some gw->hO c.idx scope.names=some oi->vJ k (m6 c scope oi) ifs=some cond->kU (m6 c scope oi) t=some (tg,aO)->
   cE k (m6 c scope oi) cF=some ie->nO gw aO=true->qQ c.names scope=true->P [⟨t,it,ifs,0⟩] (.comp ie tg aO gw cond (dq scope.names c.n).length)) {gens:List uZ} {i:IE} (h:cE (k+1) c (.ListComp cF gens scope p)=some i):P gens i:=by
 rcases gens with _ | ⟨⟨t,it,ifs,(_ | _) | _⟩,_ | _⟩<;>first | exact nn h | skip
 refine aB (cQ.mp h) λgw h1 h=>aB (cQ.mp h) λoi h2 h=> ?_;refine aB (cQ.mp h) λcond h3 h=> ?_;obtain ⟨⟨tg,aO⟩,h4,h⟩:=cQ.mp h;obtain ⟨q,h⟩:=mV h;exact b1 (λie h5=>comp t it ifs gw oi cond tg aO ie h1 h2 h3 h4 h5 (bR.mp q).1 (bR.mp q).2) h
theorem To{P:Expr->IE->Prop}(ah:∀v p q w,cC v=some w->P (.Constant v p q) (.ah w))(name:∀x p i,ji c x=some i->P (.Name x p) i)
  (bin:∀a o b p ia ib,cE k c a=some ia->cE k c b=some ib->P (.BinOp a o b p) (.bin o ia ib)) (neg:∀a p ia,cE k c a=some ia->P (.UnaryOp .USub a p) (.neg ia)) (not:∀a p ia,cE k c a=some ia->P (.UnaryOp .Not a p) (.not ia))
  (bool:∀o es p is,es.mapM (cE k c)=some is->P (.BoolOp o es p) (.bool (o== .And) is)) (ite:∀t a b p it ia ib,cB k c t=some it->cE k c a=some ia->cE k c b=some ib->P (.IfExp t a b p) (.ite it ia ib))
  (cmp:∀a o b p ia ib,cE k c a=some ia->cE k c b=some ib->P (.Compare a [o] [b] p) (.cmp o ia ib))
  (kc:∀a o1 o2 b1 b2 p ia i1 i2,cE k c a=some ia->cE k c b1=some i1->cE k c b2=some i2->P (.Compare a [o1,o2] [b1,b2] p) (.kc o1 o2 ia i1 i2))
  (aI:∀o x ap as p io is,(ahe:(ap.endLine==p.line)=true)->decide (as.length≤20)=true->baseOk o=true->cE k c o=some io->as.mapM (cE k c)=some is->P (.Call (.Attribute o x ap) as [] p) (.aI io x is))
  (call:∀x q as ks p i is Ct,ji c x=some i->as.mapM (cE k c)=some is->ks.mapM (u9 (cE k c))=some Ct->P (.Call (.Name x q) as ks p) (.call i is Ct))
  (attr:∀o x p io,baseOk o=true->cE k c o=some io->P (.Attribute o x p) (.a io x))
  (slice:∀o lo hi q p io l u,nP k c lo=some l->nP k c hi=some u->cE k c o=some io->P (.Subscript o (.Slice lo hi none q) p) (.slice io l u))
  (sub:∀o i p io ii,cE k c o=some io->cE k c i=some ii->P (.Subscript o i p) (.sub io ii))
  (tuple:∀es m p is,es.mapM (cE k c)=some is->P (.Tuple es m p) (.tuple is)) (list:∀es p is,es.mapM (cE k c)=some is->P (.List es p) (.list is))
  (comp:∀cF t it ifs scope p gw oi cond tg aO ie,cI k c it=some gw->hO c.idx scope.names=some oi->vJ k (m6 c scope oi) ifs=some cond->kU (m6 c scope oi) t=some (tg,aO)->
   cE k (m6 c scope oi) cF=some ie->nO gw aO=true->qQ c.names scope=true->P (.ListComp cF [⟨t,it,ifs,0⟩] scope p) (.comp ie tg aO gw cond (dq scope.names c.n).length))
  (lam:∀args body scope p i,Bz c args body scope=some i->P (.Lambda args body scope p) i)  {i:IE} (h:cE (k+1) c e=some i):P e i:=by
 rcases e with ⟨⟩<;>first | exact nn h | skip
 ·exact b1 (bool _ _ _) h
 ·exact b2 (bin _ _ _ _) h
 ·rcases op with ⟨⟩<;>first | exact nn h | exact b1 (not _ _) h | exact b1 (neg _ _) h
 ·exact lam _ _ _ _ _ h
 ·exact b3 (ite _ _ _ _) h
 ·exact Iq (P:=λgens i=>P (.ListComp _ gens _ _) i) (λJ J J=>comp _ _ _ _ _ _) h
 ·rcases ops with _ | ⟨o1,_ | ⟨o2,_ | _⟩⟩<;>rcases comparators with _ | ⟨r1,_ | ⟨r2,_ | _⟩⟩<;>first | exact nn h | exact b2 (cmp _ _ _ _) h | exact b3 (kc _ _ _ _ _ _) h
 ·rcases func with ⟨⟩<;>first | exact nn h | skip
  ·rcases keywords with _ | _<;>first | exact nn h | skip
   obtain ⟨q,h⟩:=mV h
   have q':=bR.mp (bR.mp q).1
   exact b2 (λJ J=>aI _ _ _ _ _ _ _ q'.1 q'.2 (bR.mp q).2) h
  ·exact b3 (call _ _ _ _ _) (Tn h)
 ·exact eM (ah _ _ _) h
 ·obtain ⟨q,h⟩:=mV h;exact b1 (λJ=>attr _ _ _ _ q) h
 ·rcases slice_1 with ⟨⟩<;>first | exact b2 (sub _ _ _) h | skip
  rcases step with _ | _
  ·exact aB (cQ.mp h) λl h1 h=>aB (cQ.mp h) λu h2 h=>eM (λio h3=>slice _ _ _ _ _ io l u h1 h2 h3) h
  ·exact b2 (sub _ _ _) h
 ·exact name _ _ _ h
 ·exact b1 (list _ _) h
 ·exact b1 (tuple _ _ _) h
theorem Cu(ok:eY X)(EO:dK X ac L ae c){p:Pos}{T:String}{K:List ab->St->Prop}{κ s A}(hr:cG n A)(rel:Rel X L ae st κ s)(hc:ji c x=some (.ah (.raw (.type T))))(hp:mZ es=true)
  (h:l4 X n L ae ac es K st)
  (hq:∀s1 aw ay vs ys,Rel X L ae aw ay s1->be (λz=>z =L) st.σ κ s.heap aw.σ ay s1.heap->aN (aj aw.σ ay) s1.heap vs ys->K vs aw->ai X.M A (call (.type T) ys) Q (λJ J=>False) s1) :
  ai X.M A (eval (.Call (.Name x p) es [] pos) ac) Q (λJ J=>False) s :=
 aE (chain (B6 ok EO hc (K:=λv st'=>v= .raw (.type T)/\st'=st) ⟨rfl,rfl⟩) hr rel λf s1 fv aw ay r1 e1 v1 k1=>by
  obtain ⟨rfl,rfl⟩:=k1;cases v1.bQ;exact HU (HV hp) rfl (weak (HW (ks:= []) (K:=λvs kvs ba=>kvs= []/\K vs ba) hp rfl (h.mono λvs st q=>⟨rfl,q⟩) hr r1) λa s2 p=>p.casesOn λvs kvs ba bN dE r2 e2 v2 w2 ha k2 =>
   ⟨⟨.machine,λA' Q E q=>aY q⟩,(show a.kw= [] by refine aa ha (aa k2.1 ?_);rfl)▸hq s2 ba bN vs a.pos r2 (e1.trans e2) v2 k2.2⟩))
def SE(X:Cx)(n:Nat)(L:Addr)(ae:List Loc)(ac:Env)(c:CT)(k:Nat):Prop:=∀e i,cE k c e=some i->∀K st,bC X n i K st->bK X n L ae (eval e ac) K st
def SB(X:Cx)(n:Nat)(L:Addr)(ae:List Loc)(ac:Env)(c:CT)(k:Nat):Prop:=∀e i,cB k c e=some i->∀K st,nW X n i K st->jN X n L ae (iJ e ac (eval e ac)) K st
noncomputable def pI(e:Expr):Bool:= !(d9 e.ctorIdx 22 || d9 e.ctorIdx 7 || d9 e.ctorIdx 26)
theorem pJ{i:IE}(h:cE k c e=some i):pI e=true:=by
 rcases k with _ | k
 ·exact nn h
 ·rcases e with ⟨⟩<;>first | rfl | exact nn h
theorem yP{op:fm}(h:pI e=true):behindInMarks op e=false:=by rcases e with ⟨⟩<;>first | rfl | exact ff h
theorem Cv(h:pI e=true)(x:Value):foldedSetIterable e ac x=pure x:=by rcases e with ⟨⟩<;>first | rfl | exact ff h
theorem Tp(h:pI e=true):Cc e=true:=(l0 _).mpr (vx.mp (vx.mp ((l0 _).mp h)).1).1
theorem re:∀{is:List IE},es.mapM (cE k c)=some is->mZ es=true:=by
 induction es with
 | nil=>exact λJ=>rfl
 | cons e es ih=>exact mc (C:=λJ=>mZ (e::es)=true) λJ J h1 h2=>bR.mpr ⟨Tp (pJ h1),ih h2⟩
theorem rf(hE:SE X n L ae ac c k):∀{is:List IE} {K:List ab->St->Prop} {st:St},es.mapM (cE k c)=some is->jm X n is K st->l4 X n L ae ac es K st:=by
 induction es with
 | nil=>exact λ{is K st}=>mn (C:=λis=>jm X n is K st->K [] st) λh=>h
 | cons e es ih=>exact λ{is K st}=>mc (C:=λis=>jm X n is K st->l4 X n L ae ac (e::es) K st) λi is h1 h2 hw=>(hE e i h1 _ _ (Qq _ _ hw)).mono λv st k=>ih h2 k
inductive vK(X:Cx)(L:Addr)(ae:List Loc)(σ:aq)(κ:bI)(h:Heap)(iQ:Bool)(K:List ab->List (Addr×List ab)->St->Prop)(y:Value)(s2:al):Prop
 | mk (items:List ab) (own:List (Addr×List ab)) (aO:Bool) (aw:St) (ay:bI) (s1:al):Rel X L ae aw ay s1->be (λz=>z =L) σ κ h aw.σ ay s1.heap->jT X L ae aw ay s1.heap aO own items y s2->(aO=true->iQ=true)->K items own aw->vK X L ae σ κ h iQ K y s2
theorem vK.of{cz:St}{κ κ0 h aO own items y}{iQ}{K:List ab->List (Addr×List ab)->St->Prop}(r:Rel X L ae st κ s)(e:be (λz=>z =L) cz.σ κ0 h st.σ κ s.heap)(m:jT X L ae st κ s.heap aO own items y s1)(ht:aO=true->iQ=true)(k:K items own st):vK X L ae cz.σ κ0 h iQ K y s1 :=
 ⟨items,own,aO,st,κ,s,r,e,m,ht,k⟩
structure m7(X:Cx)(n:Nat):Prop where
 zip:∀{L ae st κ s vs ys} {Z:List ab->Prop},yq vs Z->Rel X L ae st κ s->aN (aj st.σ κ) s.heap vs ys->∀A,cG n A->
  ai X.M A (call (.type "zip") ys) (λy s1=>ai X.M A (pyIter y) (λy s2=>∃zs,Z zs/\jT X L ae st κ s.heap true [] zs y s2) (λJ J=>False) s1) (λJ J=>False) s
theorem Ir{a b:Int}{t u:Tok}{r:Addr}{tk:Tok}{κ}{A}(rel:Rel X L ae st κ s)(hk:∀b o,s.heap.get? b=some o->s1.heap.get? b=some o)(ho:s1.os=s.os)(hg:s1.gens=s.gens)
  (hr:IsRange s1.heap r a b 1 t u tk) (dc: -2^30<a/\a<2^30/\ -2^30<b/\b<2^30):ai X.M A (pyIter (.ref r)) (jT X L ae st κ s.heap false [] (kY a (b - a).toNat)) (λJ J=>False) s1 :=
 have Tq:Rel X L ae st κ s1:=rel.ext hk ho hg
 sM (Tq.yM {cls:= .type "range_iterator",data:= .fields #[rawInt a,rawInt (Tr a b 1),rawInt 1]}) λrr e h1 h2 J =>
 have e1:Tr a b 1=(((b - a).toNat:Nat):Int):=by refine aa (rangeSize_one ..) ?_;by_cases q:a<b;exact (if_pos q).trans (tI (It (n8 q))).symm;exact (if_neg q).trans (congrArg kX (Int.toNat_of_nonpos (Int.sub_nonpos_of_le (jU.mp q)))).symm
 PP hr (small_one (ic (by decide) (n8 dc.1)) (yQ dc.2.1 (by decide)) (ic (by decide) (n8 dc.2.2.1)) (yQ dc.2.2.2 (by decide))) ⟨_,_,rfl,(by cases q:s.heap.get? s1.heap.objs.size with | none=>rfl | some o=>exact absurd (cR (hk _ _ q)) (iL _)),rr,(be.ext hk).trans e,
  eF.one (i:=0) (T:= "range_iterator") (fp:= [s1.heap.objs.size]) (wr:= [s1.heap.objs.size]) (n:=(b - a).toNat) (P:=λi v=>∃t,v= .int (a+i*1) t)
   (St:=λi h=>IsRangeIter h s1.heap.objs.size (a+(i:Nat)*1) ((((b - a).toNat:Nat):Int) - (i:Nat)) 1) (λA hA=>ahf hA _ _ _ _) (λj h q=>⟨λb hb=>by refine aa (dL.mp hb) ?_;exact ⟨_,q⟩,_,q,rfl⟩) (by decide)
   (by show (s1.heap.push _).get? _=some _;rw [cV _ rfl,e1];simp) (Td _ _) (da _) (λb hb=>if_pos hb) (λb hb=> .inl hb)
   (λj x v q ⟨t,e⟩=>e▸Te _ _ _ _ q▸(Ts _▸ .int _ _)),h2,h1,⟨_,cV _ rfl⟩,λb o e=>er _ _ b o (hk b o e)⟩
theorem Tt{κ s A}(rel:Rel X L ae st κ s)(hv:am (aj st.σ κ) s.heap v y)(hf:jR st.σ v=some vs) :
  ai X.M A (call (.type "enumerate") [y]) (λy s1=>ai X.M A (pyIter y) (jT X L ae st κ s.heap true (ownOf st.σ v) (lX 0 vs)) (λJ J=>False) s1) (λJ J=>False) s:=by
 have made:∀{l:Addr} {h':Heap} {own} {X0 X1},s.heap.get? l=some X0->h'.get? (s.heap.objs.size+1)=some X1->(∃o,h'.get? s.heap.objs.size=some o)->(∀b o,s.heap.get? b=some o->h'.get? b=some o)->
   (∀κ',be (λJ=>False) st.σ κ s.heap st.σ κ' h'->κ' (s.heap.objs.size+1)= .frame (s.heap.objs.size+1)->κ' s.heap.objs.size= .frame (s.heap.objs.size+1)->l≠s.heap.objs.size+1->l≠s.heap.objs.size->eF X (aj st.σ κ') κ' h' (s.heap.objs.size+1) true own (lX 0 vs))->
   jT X L ae st κ s.heap true own (lX 0 vs) (.ref (s.heap.objs.size+1)) {s with heap:=h'}:=λ{l h' own _ _} hl he eZ hk q =>
  sM (rel.tag (s':={s with heap:=h'}) [s.heap.objs.size+1,s.heap.objs.size] (s.heap.objs.size+1) (.head _) (λa q=>by
   rcases bq.mp q with rfl | q
   ·exact ⟨l6 _,_,he⟩
   ·refine aa (dL.mp q) ?_;exact ⟨cb _,eZ⟩) hk rfl rfl) λrr e h1 h2 J =>
  ⟨_,_,rfl,Cq (l6 _),rr,e,q _ e (if_pos (.head _)) (if_pos (.tail _ (.head _))) (dz (pK (cR hl))) (dz (cR hl)),h2,h1,⟨_,he⟩,hk⟩
 refine jR.of (C:=λv=>am (aj st.σ κ) s.heap v y->ai X.M A (call (.type "enumerate") [y]) (λy s1=>ai X.M A (pyIter y) (jT X L ae st κ s.heap true (ownOf st.σ v) (lX 0 vs)) (λJ J=>False) s1) (λJ J=>False) s) hf (λhv=> ?_) (λa q hv=> ?_) hv
 ·refine eK (hv.inv) λl cs bL u hl aL=> ?_;subst bL
  have eE:=hl
  refine aB (eE) λol el rl=>call_enumerate_list hl λh' he eZ bJ hk=>Bt he (made el he (aB eZ λo e J=>⟨o,e⟩) hk λκ' e k1 k2 n1 n2=> ?_);exact eF.pair (i:=0) (n:=cs.toArray.size) (fp:= [s.heap.objs.size+1,s.heap.objs.size,l]) (wr:= [s.heap.objs.size+1,s.heap.objs.size])
   (Pt:=λi vals=>∃t x,cs.toArray[i]? =some x/\vals= #[.int i t,x])
   (St:=λi h=>(∃old,IsEnum h (s.heap.objs.size+1) s.heap.objs.size i old)/\h.IsListIter s.heap.objs.size l i/\h.IsList l cs.toArray)
   (Mid:=λi T h=>(∃x,IsEnumOut h (s.heap.objs.size+1) s.heap.objs.size ((i:Int)+1) x T)/\h.IsListIter s.heap.objs.size l (i+1)/\h.IsList l cs.toArray/\T≠s.heap.objs.size+1/\T≠s.heap.objs.size)
   (λA hA=>SO (prog:=X.prog) (w:=X.w) hA (s.heap.objs.size+1) s.heap.objs.size l (Iu _) n1 n2 cs.toArray)
   (λj h ⟨⟨old,q⟩,⟨o,q2,_⟩,⟨o3,q3,_⟩⟩ b hb=>by
    simp only [bq,dJ,or_false] at hb
    rcases hb with rfl | rfl | rfl<;>exact ⟨_,by assumption⟩)
   (λj T h ⟨⟨old,q⟩,⟨o,q2,_⟩,⟨o3,q3,_⟩,_⟩ b hb=>by
    simp only [bq,dJ,or_false] at hb
    rcases hb with rfl | rfl | rfl<;>exact ⟨_,by assumption⟩)
   ⟨⟨_,he⟩,eZ,⟨ol,hk _ _ el,rl⟩⟩ ((H2 _ _).trans aL.length) (da _) (λb hb=>(bq.mp hb).elim (λz=>z▸k1) λhb=>dL.mp hb▸k2)
   (λb hb=>by
    rcases bq.mp hb with rfl | hb
    ·exact .inl (.head _)
    ·rcases bq.mp hb with rfl | hb
     ·exact .inl (.tail _ (.head _))
     ·refine aa (dL.mp hb) ?_;exact .inr (e.bb _ ol u el).1)
   λj x vals q ⟨t,x',q1,e1⟩=>e1▸by
    refine aB (H3 _ _ _ _ q) λv q2 bL=> ?_;subst bL;refine aB (aL.get q2) λx2 q3 r3=> ?_;cases aM (q3.symm.trans (by simpa using q1));exact ⟨_,rfl, .cons (aa (m4 ..) (.int _ _)) (.one (r3.mono e.bb))⟩
 ·refine aB (rel.g.own a _ q) λcs hl aL=> ?_;cases hv.bQ
  have eE:=hl
  exact aB (eE) λol el rl=>aa (yi q) (call_enumerate_list hl.list λh' he eZ bJ hk=>Bt he (made el he (aB eZ λo e J=>⟨o,e⟩) hk λκ' e k1 k2 n1 n2=>eF.tE (i:=0) (I2:=s.heap.objs.size) ⟨_,he⟩ eZ n1 n2 (Iu _) k1 k2 (da _)))
theorem Cw{o:Option IE}{T:String}(h:qR o=T)(hT:("" ==T)=false):o=some (.ah (.raw (.type T))):=by
 subst h;rcases o with _ | v<;>first | exact ff hT.symm | skip
 rcases v with ⟨⟩<;>first | exact ff hT.symm | skip
 rcases v with ⟨⟩<;>first | exact ff hT.symm | skip
 rcases v with ⟨⟩<;>first | exact ff hT.symm | rfl
theorem Iv{P:Expr->II->Prop}(val:∀e ie,cE k c e=some ie->P e (.val ie))(call:∀x p args q T as i,ji c x=some (.ah (.raw (.type T)))->args.mapM (cE k c)=some as->
  ((T= "range" /\i= .range as)∨(∃a,T= "enumerate" /\as= [a]/\i= .enum a)∨(T= "zip" /\i= .zip as))->P (.Call (.Name x p) args [] q) i)  {i:II} (h:cI k c e=some i):P e i:=by
 rcases e with ⟨⟩<;>first | exact eM (val _) h | skip
 rcases func with ⟨⟩<;>first | exact eM (val _) h | skip
 rcases keywords with _ | _<;>first | exact eM (val _) h | skip
 have h:yh (qR (ji c id)) (args.mapM (cE k c)) (cE k c (.Call (.Name id pos_1) args [] pos))=some i:=h
 unfold yh at h
 by_cases h1:(qR (ji c id)== "range")=true
 ·have e1:=eq_of_beq h1
  exact eM (λis h2=>call id pos_1 args pos _ is _ (Cw e1 rfl) h2 (.inl ⟨rfl,rfl⟩)) ((if_pos h1).symm.trans h)
 ·replace h:=(if_neg h1).symm.trans h
  by_cases h2:(qR (ji c id)== "enumerate")=true
  ·have e1:=eq_of_beq h2
   exact aB (cQ.mp ((if_pos h2).symm.trans h)) λis h3 h4=>eM (λa h5=>call id pos_1 args pos _ is _ (Cw e1 rfl) h3 (.inr (.inl ⟨a,rfl,yN h5,rfl⟩))) h4
  ·replace h:=(if_neg h2).symm.trans h
   by_cases h3:(qR (ji c id)== "zip")=true
   ·have e1:=eq_of_beq h3
    exact eM (λis h2=>call id pos_1 args pos _ is _ (Cw e1 rfl) h2 (.inr (.inr ⟨rfl,rfl⟩))) ((if_pos h3).symm.trans h)
   ·exact eM (val _) ((if_neg h3).symm.trans h)
def Tu(vs:List ab)(k:ab->Prop):Prop:=match vs with
 | []=>False
 | v::r=>match r with
  | []=>k v
  | _::_=>False
theorem Iw(ok:eY X)(EO:dK X ac L ae c)(Z:m7 X n)(hE:SE X n L ae ac c k){i:II}{b:Bool}(hc:cI k c e=some i)(hb:nO i b=true){K:List ab->List (Addr×List ab)->St->Prop}(h:vn X n i K st){κ s A}(hr:cG n A)(rel:Rel X L ae st κ s) :
  ai X.M A (eval e ac) (λy s1=>ai X.M A (pyIter y) (vK X L ae st.σ κ s.heap b K) (λJ J=>False) s1) (λJ J=>False) s:=by
 refine Iv (P:=λe i=>nO i b=true->vn X n i K st->ai X.M A (eval e ac) (λy s1=>ai X.M A (pyIter y) (vK X L ae st.σ κ s.heap b K) (λJ J=>False) s1) (λJ J=>False) s) (λe ie rh hb h=> ?_) (λx p args q T as i h1 h2 h3 hb h=> ?_) hc hb h
 ·exact chain (hE e ie rh _ _ h) hr rel λy s1 v aw ay r1 e1 v1 k1=>aB (bB.ex k1) λvs hs k1=>weak (Th r1 v1 hs) λy s2 m=> .of r1 e1 m (λq=>ff q) k1
 ·rcases h3 with ⟨rfl,rfl⟩ | ⟨a,rfl,rfl,rfl⟩ | ⟨rfl,rfl⟩
  ·refine Cu ok EO hr rel h1 (re h2) (rf hE h2 h) λs1 aw ay vs ys r1 e1 v1 k1=> ?_;rcases vs with _ | ⟨x1,_ | ⟨x2,_ | ⟨x3,x4⟩⟩⟩<;>first | exact k1.elim | skip
   ·refine v1.c1 λy1 a1=> ?_;exact fP.of (C:=λv=>am (aj aw.σ ay) s1.heap v _->ai X.M A (call (.type "range") [_]) _ _ s1) k1 (λa k1 a1=>by
     obtain ⟨t,rfl⟩:=a1.int_inv;exact call_range_1 (weak (Ir (s:=s1) r1 (er _ _) rfl rfl (cV _ rfl) ⟨by decide,by decide,k1.1⟩) λy s2 m=> .of r1 e1 m (λq=>ff q) (ao ((Int.sub_zero a).symm) k1.2))) a1
   ·refine v1.c λy1 zs a1 r2=>r2.c1 λy2 a2=> ?_;exact fP.of (C:=λv=>am (aj aw.σ ay) s1.heap v _->ai X.M A (call (.type "range") [_,_]) _ _ s1) k1 (λa k1 a1=>fP.of (C:=λv=>am (aj aw.σ ay) s1.heap v _->ai X.M A (call (.type "range") [_,_]) _ _ s1) k1 (λb k1 a2=>by
     obtain ⟨t,rfl⟩:=a1.int_inv;obtain ⟨u,rfl⟩:=a2.int_inv;exact call_range_2 (weak (Ir (s:=s1) r1 (er _ _) rfl rfl (cV _ rfl) k1.1) λy s2 m=> .of r1 e1 m (λq=>ff q) k1.2)) a2) a1
  ·refine Cu ok EO hr rel h1 (re h2) (K:=λvs st=>Tu vs λv=>bB (jR st.σ v) λws=>K (lX 0 ws) (ownOf st.σ v) st) (rf hE h2 h) λs1 aw ay vs ys r1 e1 v1 k1=> ?_;rcases vs with _ | ⟨x1,_ | ⟨x2,x3⟩⟩<;>first | exact k1.elim | skip
   exact v1.c1 λy1 a1=>aB (bB.ex k1) λws hw k1=>weak (Tt r1 a1 hw) λy s2 m=>weak m λy s3 m=> .of r1 e1 m (λJ=>hb) k1
  ·exact Cu ok EO hr rel h1 (re h2) (rf hE h2 h) λs1 aw ay vs ys r1 e1 v1 k1=>weak (Z.zip k1 r1 v1 A hr) λy s2 m=>weak m λy s3 ⟨zs,kz,m⟩=> .of r1 e1 m (λJ=>hb) kz
end
section
open scoped Classical
theorem Tv{X aD ay}{J:Addr}(G1:bk X aD ay s1)(hJ:s1.heap.get? J=none){a L'}(e:ay a= .frame L'):L'≠J:=λq=>by
 subst q
 have:=G1.fr a _ e
 obtain ⟨o',g⟩:=G1.lt L' (λu=>bW (u.2.symm.trans this));exact nn (hJ.symm.trans g)
theorem be.m5{ex:Addr->Prop}{X aD ay}{σ κ h σ' κ' h' J}(G1:bk X aD ay s1)(e:be ex aD ay s1.heap σ κ h)(hJ:s1.heap.get? J=none)(jp:∀a,κ' a=if κ a= .frame J then .none else κ a)
  (S:c7 (aj σ κ) h (aj σ' κ') h') (hk:∀b o,κ b≠ .frame J->h.get? b=some o->h'.get? b=some o):be ex aD ay s1.heap σ' κ' h' :=
 have ne:∀{a L'},ay a= .frame L'->κ a= .frame L'->κ a≠ .frame J:=λq q' z=>Tv G1 hJ q (Tag.frame.inj (q'.symm.trans z))
 ⟨e.bb.trans S,λa o L' q n g=>dP (e.frames a o L' q n g) λq' g'=>⟨(jp a).trans ((if_neg (ne q q')).trans q'),hk a o (ne q q') g'⟩,
  λa o L' q g=>have ⟨q',o',g'⟩:=e.qO a o L' q g;q'.elim (λq'=>⟨.inl ((jp a).trans ((if_neg (ne q q')).trans q')),o',hk a o' (ne q q') g'⟩) λu=>⟨.inr (S a o' u g').1,o',(S a o' u g').2⟩⟩
section
variable{X:Cx}{n:Nat}{L:Addr}{ae:List Loc}{ac:Env}{c:CT}
structure Inv(X:Cx)(L:Addr)(ae:List Loc)(aD:aq)(ay:bI)(h1:Heap)(I:Addr)(aO:Bool)(own:List (Addr×List ab))(b7:List ab)(st:St)(κ:bI)(s:al):Prop where
 rel:Rel X L ae st κ s
 dp:be (λa=>a=L∨a=I) aD ay h1 st.σ κ s.heap
 it:eF X (aj st.σ κ) κ s.heap I aO own b7
 hv:∀(i:Nat) l,ae[i]? =some l->κ l.addr≠ .frame I
theorem gc.tJ{ex:Addr->Prop}{m fz σ κ h σ' κ' h' J}(F:gc L ae m fz σ κ h)(e:be ex σ κ h σ' κ' h')(hv:∀(i:Nat) l,ae[i]? =some l->κ l.addr≠ .frame J):∀(i:Nat) l,ae[i]? =some l->κ' l.addr≠ .frame J:=λi l hi q =>
 (F.lt i l hi).elim λo g =>
  have k:∀L',κ l.addr= .frame L'->False:=λL' z=>(e.qO _ o L' z g).1.elim (λh=>hv i l hi (z.trans (h.symm.trans q))) λh=>bW (h.2.symm.trans q)
  if hf:i∈fz then (F.rd i l hi hf).elim (λu=>bW ((e.bb _ o u g).1.2.symm.trans q)) λ⟨L',_,z⟩=>k L' z else k L (F.wr i l hi hf).1
variable{aD:aq}{ay:bI}{h1:Heap}{I:Addr}{aO:Bool}{own:List (Addr×List ab)}{b7:List ab}{st st':St}{κ κ':bI}{s s':al}
theorem Inv.body(V:Inv X L ae aD ay h1 I aO own b7 st κ s)(hI:I≠L)(hA:∃A:cA,A.handled=none)(r:Rel X L ae st' κ' s')(e:be (λz=>z =L) st.σ κ s.heap st'.σ κ' s'.heap):Inv X L ae aD ay h1 I aO own b7 st' κ' s' where
 rel:=r
 dp:=V.dp.trans (e.weaken λJ q=> .inl q)
 it:=V.it.dp hI e hA
 hv:=V.rel.f.tJ e V.hv
theorem Inv.wk{b7:List ab}{K:St->Prop}(V:Inv X L ae aD ay h1 I aO own b7 st κ s)(h:Wk K st):∃st',Inv X L ae aD ay h1 I aO own b7 st' κ s/\K st' :=
 let ⟨bs,k⟩:=h;⟨_,⟨V.rel.nQ,V.dp,V.it,V.hv⟩,k⟩
theorem Inv.turn{d0:List ab}(V:Inv X L ae aD ay h1 I aO own b7 st κ s)(hI:I≠L)(t:jo st.σ κ I s s')(it:eF X (aj st.σ κ) κ s'.heap I aO own d0):Inv X L ae aD ay h1 I aO own d0 st κ s' :=
 ⟨t.rel V.rel hI V.hv,V.dp.trans t.dp,it,V.hv⟩
theorem Inv.done(G1:bk X aD ay s1)(V:Inv X L ae aD ay s1.heap I aO own b7 st κ s)(hI:I≠L)(pL:s1.heap.get? I=none)
  (hk:∀b o,κ b≠ .frame I->s.heap.get? b=some o->s'.heap.get? b=some o) (ho:s'.os=s.os) (hg:s'.gens=s.gens):∃κ',Rel X L ae st κ' s'/\be (λz=>z =L) aD ay s1.heap st.σ κ' s'.heap :=
 kQ (V.rel.m5 hI V.hv hk ho hg) λκ' r S jp =>
 ⟨κ',r,(V.dp.m5 G1 pL jp S hk).fresh G1 λa q=>q.elim .inl λz=> .inr (z▸pL)⟩
theorem noRaise{A E}{t:Sem α}{Q:α->al->Prop}(h:ai X.M A t Q (λJ J=>False) s):ai X.M A t Q E s:=eS h (λJ J x=>x) λJ J x=>x.elim
theorem Tw(ok:eY X)(EO:dK X ac L ae c)(Z:m7 X n)(hE:SE X n L ae ac c k){iter:Expr}{body:List fM}{i:II}{gd:List Nat}{aO:Bool}{ib:List IS}
  (hc:cI k c iter=some i) (ht:kU c target=some (gd,aO)) (hb:nO i aO=true) (pf:∀K st,dy X n ib K st->dC X n L ae (execs body ac) K st) (Cy:∀x,foldedSetIterable iter ac x=pure x) {K:cn->St->Prop} 
  (h:vn X n i (λitems own st=>Wk (pB own (λx st K'=>pA gd aO x st λst=>dy X n ib K' st) K items) st) st):dC X n L ae (exec (.For target iter body [] pos) ac) K st:=λA κ s hr rel=>by
 refine Pm (weak (Iw ok EO Z hE hc hb h hr rel) λx s1 h1=>weak h1 λy s2 p=> ?_) Cy;obtain ⟨items,own,iQ,aw,ay,s1,r1,e1,⟨I,bN,rfl,pL,r,e,it,hI,hv,_,_⟩,vL,hw⟩:=p;refine aB (Inv.wk ⟨r,qZ e,it,hv⟩ hw) λba V2 hw=>PA (λk s'=>∃st' κ' b7,Inv X L ae aw.σ ay s1.heap I iQ own b7 st' κ' s'/\pB own (λx st K'=>pA gd aO x st λst=>dy X n ib K' st) K b7 st'/\b7.length<k) ?_ (items.length+1) ⟨ba,bN,items,V2,hw,jr _⟩
 rintro k' s' ⟨st',κ',b7,V,iR,aR⟩
 have Cz:Guard own st':=by cases b7<;>exact iR.1
 refine noRaise (weak (H9 (target:=target) hr.handled V.rel Cz V.it λq=>Il ht (vL q)) λr s3 h3=> ?_);rcases r with _ | y
 ·refine Gc (h3) λgf hk ho hg=> ?_;subst gf;obtain ⟨fo,r3,e3⟩:=V.done r1.g hI pL hk ho hg;exact Bm ⟨.next,st',fo,r3,e1.trans e3, .next,iR.2⟩
 ·obtain ⟨x,d0,rfl,h3⟩:=h3
  have lt:d0.length+1<k':=aR
  refine noRaise (weak h3 λJ s4 t=>noRaise (weak (Ik EO hr ht (V.turn hI t.t t.it).rel t.v iR.2) λJ s5 p=> ?_));obtain ⟨_,B5,tA,r5,e5,_,k5⟩:=p
  have V5:=(V.turn hI t.t t.it).body hI ⟨A,hr.handled⟩ r5 e5
  refine noRaise (weak (pf _ _ k5 A tA s5 hr r5) λfl s6 p=> ?_);obtain ⟨Ix,vM,pM,r6,e6,vf,k6⟩:=p
  have V6:=V5.body hI ⟨A,hr.handled⟩ r6 e6
  have e7:=e1.trans (V6.dp.fresh r1.g λa q=>q.elim .inl λz=> .inr (z▸pL))
  rcases vf with _ | _ | _ | v
  ·obtain ⟨yR,V7,k7⟩:=V6.wk k6;exact ⟨d0.length+1,lt,yR,pM,d0,V7,k7,jr _⟩
  ·exact ⟨.next,vM,pM,r6,e7, .next,k6⟩
  ·obtain ⟨yR,V7,k7⟩:=V6.wk k6;exact ⟨d0.length+1,lt,yR,pM,d0,V7,k7,jr _⟩
  ·exact ⟨_,vM,pM,r6,e7, .ret v,k6⟩
end
end
section
variable{X:Cx}{n:Nat}{L:Addr}{ae:List Loc}{ac:Env}{c:CT}
theorem Tx{K:cn->St->Prop}(h:K .next st):dC X n L ae (execs [] ac) K st:=λJ J J J rel=>Bm (.same rel rfl rfl rfl .next h)
def Iy(P:St->Prop)(K:cn->St->Prop)(fl:cn)(st:St):Prop:=match fl with | .next=>P st | fl=>K fl st
theorem Tz{s:fM}{ss:List fM}{K:cn->St->Prop}
  (h:dC X n L ae (exec s ac) (Iy (λst=>dC X n L ae (execs ss ac) K st) K) st):dC X n L ae (execs (s::ss) ac) K st:=λA κ s0 hr rel =>
 Ph (chain h hr rel λy s1 fl aw ay r1 e1 v1 k1=>by
  rcases v1 with _ | _ | _ | v
  ·exact weak (k1 A ay s1 hr r1) λJ J p=>p.trans e1
  ·exact .to r1 e1 .brk k1
  ·exact .to r1 e1 .cont k1
  ·exact .to r1 e1 (.ret v) k1)
theorem TA{K:cn->St->Prop}(h:K .next st):dC X n L ae (exec (.Pass pos) ac) K st:=λJ J J J rel=>by
 exact aa (arm_exec_Pass ..) (aE (g8 (aY (.same rel rfl rfl rfl .next h))))
theorem TB{t:Expr}{a b:List fM}{K:cn->St->Prop}
  (h:jN X n L ae (iJ t ac (eval t ac)) (λc aw=>bf c (dC X n L ae (execs a ac) K aw) (dC X n L ae (execs b ac) K aw)) st):dC X n L ae (exec (.If t a b pos) ac) K st:=λA κ s hr rel =>
 Pk (chain h hr rel λc s1 a' aw ay r1 e1 v1 k1=>by
  cases v1;cases c<;>exact weak (k1 A ay s1 hr r1) λJ J p=>p.trans e1)
theorem TC{t:Expr}{body:List fM}{K:cn->St->Prop}
  (h:pC (λKb Ke st=>jN X n L ae (iJ t ac (eval t ac)) (λb aw=>bf b (dC X n L ae (execs body ac) Kb aw) (Ke aw)) st) K st):dC X n L ae (exec (.While t body [] pos) ac) K st:=λA κ s hr rel=>by
 obtain ⟨S,μ,P,x,bs,hx,e0,h⟩:=h;refine Pl (Py (λk s'=>∃x κ',Rel X L ae (S x) κ' s'/\be (λz=>z =L) st.σ κ s.heap (S x).σ κ' s'.heap/\P x/\μ x=k) ?_ (μ x) ⟨x,κ,ao e0 rel.nQ,ao e0 .refl,hx,rfl⟩)
 rintro k s' ⟨x',κ',r',e',hi,rfl⟩
 refine noRaise (chain (h x' hi) hr r' λb s1 b' aw ay r1 e1 v1 k1=> ?_);cases v1;cases b
 ·exact Bm ⟨_,aw,ay,r1,e'.trans e1, .next,k1⟩
 ·refine noRaise (chain k1 hr r1 λfl s2 Ix ba bN r2 e2 v2 k2=> ?_)
  have e3:=(e'.trans e1).trans e2
  have again:yo S μ P x' ba->∃m,m<μ x'/\∃x κ',Rel X L ae (S x) κ' s2/\be (λz=>z =L) st.σ κ s.heap (S x).σ κ' s2.heap/\P x/\μ x=m:=λ⟨y,bs,hm,hy,e⟩ =>
   ⟨μ y,hm,y,bN,ao e r2.nQ,ao e (e3:be _ _ _ _ (gx bs ba).σ _ _),hy,rfl⟩
  rcases v2 with _ | _ | _ | v
  ·exact again k2
  ·exact ⟨_,ba,bN,r2,e3, .next,k2⟩
  ·exact again k2
  ·exact ⟨_,ba,bN,r2,e3, .ret v,k2⟩
theorem TD{K:cn->St->Prop}(h:K (.ret .none) st):dC X n L ae (exec (.Return none pos) ac) K st:=λJ J J J rel =>
 Pj (.same rel rfl rfl rfl (.ret (.raw _)) h)
theorem TE{K:cn->St->Prop}(h:bK X n L ae (eval e ac) (λv st=>K (.ret v) st) st):dC X n L ae (exec (.Return (some e) pos) ac) K st:=λA κ s hr rel =>
 Pi (chain h hr rel λy s1 v aw ay r1 e1 v1 k1=> .to r1 e1 (.ret v1) k1)
theorem TF(EO:dK X ac L ae c){f:Expr}{as:List Expr}{p:Pos}{K:cn->St->Prop}(h:bK X n L ae (eval (.Call f as ks p) ac) (λJ st=>K .next st) st) :
  dC X n L ae (exec (.Expr (.Call f as ks p) pos) ac) K st:=λA κ s hr rel =>
 Pr (chain h hr rel λy s1 v aw ay r1 e1 v1 k1=> .to r1 e1 .next k1) (by unfold interactive;refine aa EO.kind ?_;rfl) rfl
variable(O:Ops X n)
include O
omit O in
theorem Iz(hE:SE X n L ae ac c k){e:Option Expr}{i:Option IE}{K:Option ab->St->Prop}(hc:nP k c e=some i)(h:pE X n i K st):l5 X n L ae ac e K st:=by
 rcases e with _ | e
 ·cases hc;exact h
 ·exact eM (f:=some) (P:=λi=>pE X n i K st->bK X n L ae (eval e ac) (λv st=>K (some v) st) st) (λie h1 h=>hE e ie h1 _ _ h) hc h
omit O in
theorem l5.mono{e:Option Expr}{K K':Option ab->St->Prop}(h:l5 X n L ae ac e K st)(k:∀v st,K v st->K' v st):l5 X n L ae ac e K' st:=by
 rcases e with _ | e
 ·exact k _ _ h
 ·exact mO.mono h λv st=>k _ st
omit O in
theorem IA(hE:SE X n L ae ac c k){lo hi:Option Expr}{l u:Option IE}{K:Option ab->Option ab->St->Prop}(h1:nP k c lo=some l)(h2:nP k c hi=some u)(h:pE X n l (λl st=>pE X n u (λu st=>K l u st) st) st) :
  l5 X n L ae ac lo (λl aw=>l5 X n L ae ac hi (λu ba=>K l u ba) aw) st:=(Iz hE h1 h).mono λJ J q=>Iz hE h2 q
omit O in
theorem CA{P:Expr->IT->Prop}(name:∀x p i,jO c x=some i->P (.Name x p) (.v i))(attr:∀o x p io,cE k c o=some io->P (.Attribute o x p) (.a io x))
  (slice:∀o lo hi q p io l u,nP k c lo=some l->nP k c hi=some u->cE k c o=some io->P (.Subscript o (.Slice lo hi none q) p) (.slice io l u))
  (sub:∀o i p io ii,cE k c o=some io->cE k c i=some ii->P (.Subscript o i p) (.sub io ii)) {t:Expr} {it:IT} (h:cT k c t=some it):P t it:=by
 rcases t with ⟨⟩<;>first | exact nn h | exact eM (name _ _) h | exact b1 (attr _ _ _) h | skip
 rcases slice_1 with ⟨⟩<;>first | exact b2 (sub _ _ _) h | skip
 rcases step with _ | _
 ·exact aB (cQ.mp h) λl h1 h=>aB (cQ.mp h) λu h2 h=>eM (λio h3=>slice _ _ _ _ _ io l u h1 h2 h3) h
 ·exact b2 (sub _ _ _) h
theorem CB(EO:dK X ac L ae c)(hE:SE X n L ae ac c k){t:Expr}{it:IT}{K:St->Prop}{κ s A}(hr:cG n A)(hc:cT k c t=some it)(rel:Rel X L ae st κ s)(hv:am (aj st.σ κ) s.heap v y)
  (h:ty X n it v K st):ai X.M A (assign t ac y) (Post X L ae st.σ κ s.heap hH (λJ=>K)) (λJ J=>False) s:=by
 refine CA (P:=λt it=>ty X n it v K st->ai X.M A (assign t ac y) (Post X L ae st.σ κ s.heap hH (λJ=>K)) (λJ J=>False) s) (λx p i hi h=>Ci EO hi rel hv h) (λo x p io h1 h=> ?_) (λo lo hi q p io l u h1 h2 h3 h=> ?_) (λo i p io ii h1 h2 h=> ?_) hc h
 ·exact aa (assign_Attribute ..) (aE (cj (chain (hE o io h1 _ _ h) hr rel λy1 s1 ov aw ay r1 e1 v1 k1=>aE (g8 (aE (cj (weak (O.setAttr (K:=λJ=>K) k1 r1 v1 (hv.mono e1.bb) A hr) λJ J p=>yA (p.trans e1))))))))
 ·refine aa (TG ..) ?_;exact aE (cj (chain (hE o io h3 _ _ h) hr rel λy1 s1 ov aw ay r1 e1 v1 k1=>aE (cj (H0 (IA hE h1 h2 k1) hr r1 λs2 l' u' ba bN lv uv d r2 e2 vl vu hd l7 k2=>aE (g8 (aE (cj
   (weak (O.HD (K:=λJ=>K) k2 r2 (v1.mono e2.bb) vl vu (hv.mono (e1.trans e2).bb) hd l7 A hr) λJ J p=>yA (p.trans (e1.trans e2))))))))))
 ·refine aa (TG ..) ?_;exact aE (cj (chain (hE o io h1 _ _ h) hr rel λy1 s1 ov aw ay r1 e1 v1 k1=>aE (cj (chain (hE i ii h2 _ _ k1) hr r1 λy2 s2 iv ba bN r2 e2 v2 k2=>aE (g8 (aE (cj
   (weak (O.B3 (K:=λJ=>K) k2 r2 (v1.mono e2.bb) v2 (hv.mono (e1.trans e2).bb) A hr) λJ J p=>yA (p.trans (e1.trans e2))))))))))
end
section
variable {r:List (Str×ce)}
noncomputable def fb(C:Addr)(cells:List (Str×Addr)):List (Str×ce)->List Loc
 | []=> []
 | (x,k)::r=>if k== .local || k== .cell then (if k== .local then Loc.loc C x else .cell ((cells.lookup x).getD 0))::fb C cells r else fb C cells r
theorem yS{C:Addr}{cells:List (Str×Addr)}{p:Str×ce}:fb C cells (p::r)=if (p.2== .local || p.2== .cell)=true then (if (p.2== .local)=true then Loc.loc C p.1 else .cell ((cells.lookup p.1).getD 0))::fb C cells r else fb C cells r:=rfl
theorem IC{p:Str×ce}{n:Nat}:dq (p::r) n=if (p.2== .local || p.2== .cell)=true then (p.1,n)::dq r (n+1) else dq r n:=rfl
theorem vN{C cells}(ns:List (Str×ce)):∀n:Nat,(fb C cells ns).length=(dq ns n).length:=by
 induction ns with
 | nil=>exact λJ=>rfl
 | cons p r ih =>
  intro n;refine aH yS IC ?_
  by_cases q:(p.2== .local || p.2== .cell)=true
  ·exact aH (if_pos q) (if_pos q) (congrArg (λz=>z +1) (ih (n+1)))
  ·exact aH (if_neg q) (if_neg q) (ih n)
def vO(C:Addr)(cells:List (Str×Addr))(x:Str)(k:ce)(l:Loc):Prop:=(k= .local/\l= .loc C x)∨(k= .cell/\l= .cell ((cells.lookup x).getD 0))
theorem yT{C cells x k}(q:(k== .local || k== .cell)=true):vO C cells x k (if (k==ce.local)=true then Loc.loc C x else Loc.cell ((cells.lookup x).getD 0)):=by
 rcases k with ⟨⟩<;>first | exact ff q | exact .inl ⟨rfl,rfl⟩ | exact .inr ⟨rfl,rfl⟩
theorem CC{C cells}{i:Nat}(ns:List (Str×ce)):∀n:Nat,(dq ns n).lookup x=some i->n≤i/\∃k,(x,k)∈ns/\∃l,(fb C cells ns)[i - n]? =some l/\vO C cells x k l:=by
 induction ns with
 | nil=>exact λJ=>nn
 | cons p r ih =>
  obtain ⟨y,k⟩:=p;intro n h;rw [IC] at h
  refine aa yS ?_
  by_cases q:(k== .local || k== .cell)=true
  ·rw [if_pos q,kZ] at h
   refine aa (if_pos q) ?_;rcases kq:x==y with _ | _
   ·rw [kq] at h
    obtain ⟨h1,k',h2,l,h3⟩:=ih (n+1) h;exact ⟨ig h1,k', .tail _ h2,l,by refine aa ((TH (ri h1)).symm) ?_;exact h3⟩
   ·rw [kq] at h
    cases aM h;cases eq_of_beq kq;exact ⟨cb _,k, .head _,_,by refine aa (TJ ..) ?_;rfl,yT q⟩
  ·rw [if_neg q] at h ⊢
   obtain ⟨h1,k',h2,h3⟩:=ih n h;exact ⟨h1,k', .tail _ h2,h3⟩
theorem rj{p:Str×ce}(hn:jP (p::r)=true):(∀k,(p.1,k)∉r)/\jP r=true :=
 ⟨λk h=>ff (((l0 _).mp (bR.mp hn).1).symm.trans (TK.mpr ⟨_,h,beq_self_eq_true _⟩)),(bR.mp hn).2⟩
theorem n9{k:ce}{ns:List (Str×ce)}(hn:jP ns=true)(h:(x,k)∈ns):ns.lookup x=some k:=by
 induction ns with
 | nil=>cases h
 | cons p r ih =>
  refine aa kZ ?_;rcases bq.mp h with rfl | h
  ·exact aa (beq_self_eq_true ..) rfl
  ·exact aa (show (x==p.1)=false from beq_eq_false_iff_ne.mpr λe=>(rj hn).1 k (ao e h)) (ih (rj hn).2 h)
theorem CE{C cells}{l:Loc}{ns:List (Str×ce)}(h:l∈fb C cells ns):∃x k,(x,k)∈ns/\vO C cells x k l:=by
 induction ns with
 | nil=>cases h
 | cons p r ih =>
  have tl:l∈fb C cells r->_:=λh=>jL (ih h) λx k a b=>(⟨x,k, .tail p a,b⟩:∃x k,(x,k)∈p::r/\vO C cells x k l)
  rw [yS] at h
  by_cases q:(p.2== .local || p.2== .cell)=true
  ·rw [if_pos q] at h
   rcases bq.mp h with rfl | h
   ·exact ⟨p.1,p.2, .head _,yT q⟩
   ·exact tl h
  ·rw [if_neg q] at h
   exact tl h
theorem TL{C cells}{ns:List (Str×ce)}(hn:jP ns=true)
  (hc:∀x y,(x,l8)∈ns->(y,l8)∈ns->(cells.lookup x).getD 0=(cells.lookup y).getD 0->x=y):∀{i j:Nat} {l:Loc},(fb C cells ns)[i]? =some l->(fb C cells ns)[j]? =some l->i=j:=by
 induction ns with
 | nil=>exact λh=>nn h
 | cons p r ih =>
  obtain ⟨y,k⟩:=p
  have ih:=λ{i j l}=>ih (rj hn).2 (λx y hx hy=>hc x y (.tail _ hx) (.tail _ hy)) (i:=i) (j:=j) (l:=l)
  have IG:∀{l} {q:Nat},vO C cells y k l->(fb C cells r)[q]? ≠some l:=λ{l q} hl hq=>by
   refine jL (CE (cr hq)) λx k' h1 h2=> ?_
   have:=(rj hn).1 k'
   rcases hl with ⟨rfl,rfl⟩ | ⟨rfl,rfl⟩<;>rcases h2 with ⟨rfl,h2⟩ | ⟨rfl,h2⟩<;>first | exact GH h2 | exact GH h2.symm | skip
   ·cases h2;exact this h1
   ·exact this (ao (hc x y (.tail _ h1) (.head _) (Loc.cell.inj h2).symm) h1)
  intro i j l;refine aa yS ?_
  by_cases q:(k== .local || k== .cell)=true
  ·refine aa (if_pos q) ?_;intro hi hj;rcases i with _ | i<;>rcases j with _ | j
   ·rfl
   ·exact absurd hj (IG (ao (aM hi) (yT q)))
   ·exact absurd hi (IG (ao (aM hj) (yT q)))
   ·exact congrArg (λz=>z +1) (ih hi hj)
  ·exact aa (if_neg q) ih
noncomputable def ij(ac:Env):List (Str×ce)->List (Str×Addr)->List (Str×Addr)
 | [],acc=>acc
 | (x,k)::r,acc=>if k== .free then ij ac r ((x,(ac.cells.lookup x).getD 0)::acc) else ij ac r acc
theorem TM{acc:List (Str×Addr)}:ij ac [] acc=acc:=rfl
theorem yU{p:Str×ce}{acc:List (Str×Addr)}:ij ac (p::r) acc=if (p.2== .free)=true then ij ac r ((p.1,(ac.cells.lookup p.1).getD 0)::acc) else ij ac r acc:=rfl
theorem IH(h:∀p∈scope.names,p.2= .free->∃a,ac.cells.lookup p.1=some a):closureFor scope ac=pure (ij ac scope.names []):=by
 have m0:∀(ns:List (Str×ce)) (acc:List (Str×Addr)) (f:Str×ce->List (Str×Addr)->Sem (ForInStep (List (Str×Addr)))),
   (∀name kind cs,f (name,kind) cs=if kind== .free then (do let a<-cellOf ac name;pure (.yield ((name,a)::cs))) else pure (.yield cs))->
   (∀p∈ns,p.2= .free->∃a,ac.cells.lookup p.1=some a)->(forIn ns acc f:Sem _)=pure (ij ac ns acc):=by
  intro ns
  induction ns with
  | nil=>intro acc f _ _;rfl
  | cons p r ih =>
   intro acc f hf h;obtain ⟨x,k⟩:=p;refine aa (pd ..) (aa (hf ..) ?_);refine aa yU ?_
   split
   ·rename_i hk
    have d3:k= .free:=by simpa using hk
    obtain ⟨a,ha⟩:=h (x,k) (.head _) d3;refine aa (show cellOf ac x=pure a by unfold cellOf;rw [ha]) ?_;simp only [pure_bind,ha,TN];exact ih _ f hf λp hp=>h p (.tail _ hp)
   ·simp only [pure_bind];exact ih _ f hf λp hp=>h p (.tail _ hp)
 unfold closureFor;dsimp only;refine aa (m0 scope.names [] _ (λname kind cs=>by cases hk:kind==jV<;>simp [hk]) h) ?_
 rfl
theorem IJ(ns:List (Str×ce)):∀acc:List (Str×Addr),(∀k,(x,k)∈ns->k≠ .free)->(ij ac ns acc).lookup x=acc.lookup x:=by
 induction ns with
 | nil=>exact λJ J=>rfl
 | cons p r ih =>
  intro acc h;refine aa yU ?_
  by_cases q:(p.2== .free)=true
  ·exact aa (if_pos q) (aa (ih _ λk q=>h k (.tail _ q)) (aa kZ (aa (show (x==p.1)=false from beq_eq_false_iff_ne.mpr λe=>h p.2 (e▸ .head _) (eq_of_beq q)) rfl)))
  ·exact aa (if_neg q) (ih _ λk q=>h k (.tail _ q))
theorem TP{k k':ce}(hn:jP ((x,k)::r)=true):(x,k')∉r:=(rj hn).1 k'
theorem TQ(ns:List (Str×ce)):∀acc:List (Str×Addr),jP ns=true->(x,jV)∈ns->(ij ac ns acc).lookup x=some ((ac.cells.lookup x).getD 0):=by
 induction ns with
 | nil=>exact λJ J h=>by cases h
 | cons p r ih =>
  intro acc hn h;refine aa yU ?_;rcases bq.mp h with rfl | h
  ·exact aa (if_pos (by rfl)) (aa (IJ r _ λk q=>absurd q (TP hn)) (aa kZ (aa (beq_self_eq_true ..) rfl)))
  ·by_cases q:(p.2== .free)=true
   ·exact aa (if_pos q) (ih _ (rj hn).2 h)
   ·exact aa (if_neg q) (ih _ (rj hn).2 h)
theorem tK(ns:List (Str×ce)):∀(n:Nat) (acc:List (Str×Addr)),cellsFrom n ns acc=cellsFrom n ns []++acc:=by
 induction ns with
 | nil=>exact λJ J=>rfl
 | cons p r ih =>
  intro n acc;unfold cellsFrom
  by_cases q:(p.2== .cell)=true
  ·refine aH (if_pos q) (if_pos q) (aH (ih (n+1) (_::acc)) (ih (n+1) [_]) (aa (lb ..) ?_));rfl
  ·exact aH (if_neg q) (if_neg q) (ih n acc)
theorem TR(ns:List (Str×ce)):∀n:Nat,(x,a)∈cellsFrom n ns []->(x,l8)∈ns:=by
 induction ns with
 | nil=>exact λJ h=>by cases h
 | cons p r ih =>
  intro n h;unfold cellsFrom at h
  by_cases q:(p.2== .cell)=true
  ·rw [if_pos q,tK] at h
   rcases jg.mp h with h | h
   ·exact .tail _ (ih _ h)
   ·cases dL.mp h;exact ao (eq_of_beq q) (.head _)
  ·rw [if_neg q] at h;exact .tail _ (ih _ h)
theorem TT{l:List (Str×α)}(h:∀a,(x,a)∉l):l.lookup x=none:=by
 induction l with
 | nil=>rfl
 | cons p r ih=>refine aa kZ (aa (show (x==p.1)=false from beq_eq_false_iff_ne.mpr λe=>h p.2 (e▸ .head _)) ?_);exact ih λa q=>h a (.tail _ q)
theorem yV(ns:List (Str×ce)):∀n:Nat,(x,l8)∈ns->∃a,(cellsFrom n ns []).lookup x=some a:=by
 induction ns with
 | nil=>exact λJ h=>by cases h
 | cons p r ih =>
  intro n h;unfold cellsFrom
  by_cases q:(p.2== .cell)=true
  ·refine aa (if_pos q) (aa (tK ..) (aa yW ?_));rcases hq:(cellsFrom (n+1) r []).lookup x with _ | a
   ·rcases bq.mp h with rfl | h
    ·exact ⟨n,by refine aa kZ (aa (beq_self_eq_true ..) ?_);rfl⟩
    ·exact (ih (n+1) h).elim λa e=>nn (hq.symm.trans e)
   ·exact ⟨a,rfl⟩
  ·refine aa (if_neg q) ?_;rcases bq.mp h with rfl | h
   ·exact absurd rfl q
   ·exact ih n h
end
section
variable{X:Cx}{σ:aq}{κ:bI}{s s':al}
structure pN(ae:List Loc)(m:List (Option ab))(σ:aq)(κ:bI)(h:Heap):Prop where
 len:m.length=ae.length
 lt:∀(i:Nat) l,ae[i]? =some l->∃o,h.get? l.addr=some o
 vals:∀(i:Nat) v,m[i]? =some (some v)->∃l y,ae[i]? =some l/\lO h l y/\am (aj σ κ) h v y
 rd:∀(i:Nat) l,ae[i]? =some l->aj σ κ l.addr∨∃L',κ l.addr= .frame L'
theorem gc.outer{L ae m fz h}(F:gc L ae m fz σ κ h):pN ae m σ κ h where
 len:=F.len
 lt:=F.lt
 vals:=F.vals
 rd:=λi l e=>if q:i∈fz then (F.rd i l e q).imp id λh=>h.imp λJ z=>z.2 else .inr ⟨L,(F.wr i l e q).1⟩
theorem pN.nil{h}:pN [] [] σ κ h:=⟨rfl,λJ J=>nn,λJ J=>nn,λJ J=>nn⟩
structure IK(h h':Heap)(C:Addr)(cs:List (Str×Addr)):Prop where
 k:∀b o,h.get? b=some o->h'.get? b=some o
 old:∀b o,h.get? b=some o->b<C
 ns:h'.Ns C λJ=>none
 cell:∀x a,(x,a)∈cs->h'.IsCell a none/\C<a
 inj:∀x y a,(x,a)∈cs->(y,a)∈cs->x=y
theorem yX(h:Heap)(ns:List (Str×ce))(T:Value):IK h (pushCells (h.push {cls:=T,data:= .dict #[]}) ns) h.objs.size (cellsFrom (h.objs.size+1) ns []):=by
 have bJ:(h.push {cls:=T,data:= .dict #[]}).objs.size=h.objs.size+1:=oa ..
 have ok:=cellsFrom_ok ns (h.push {cls:=T,data:= .dict #[]}) (h.objs.size+1) [] ⟨λJ J hm=>(nomatch hm),ahg⟩ (by refine aa bJ ?_;exact cb _)
 rw [bJ] at ok
 exact ⟨λb o e=>TU _ _ _ _ (fq _ e),λb o e=>cR e,(ahh h T).keeps (TU _ _),λx a hm=>ok.empty x a hm,λx y a=>name_of_addr ok.apart⟩
theorem TV{ae:List Loc}{m:List (Option ab)}(G:bk X σ κ s)(Ou:pN ae m σ κ s.heap){ns:List (Str×ce)}(hn:jP ns=true){C:Addr}{cs cl:List (Str×Addr)}(F:IK s.heap s'.heap C cs)(hC:s.heap.objs.size=C)
  (vF:∀x,(x,l8)∈ns->∃a,cl.lookup x=some a/\(x,a)∈cs) (ho:s'.os=s.os) (hg:s'.gens=s.gens) :
  ∃κ',bk X σ κ' s'/\be (λJ=>False) σ κ s.heap σ κ' s'.heap/\gc C (ae++fb C cl ns) (m++cf (fb C cl ns).length none) (aK ae.length) σ κ' s'.heap/\∀a,(∃o,s.heap.get? a=some o)->κ' a=κ a:=by
 obtain ⟨G1,e1,CF⟩:=G.tag (s':=s') (C::cs.map (λz=>z.2)) C (.head _) (λa ha=>by
  rcases bq.mp ha with rfl | ha
  ·obtain ⟨o,_,_,g,_⟩:=F.ns;exact ⟨bS hC,o,g⟩
  ·obtain ⟨⟨x,a'⟩,hm,rfl⟩:=bF.mp ha;obtain ⟨⟨o,g,_⟩,c9⟩:=F.cell x a' hm;exact ⟨hC▸bO c9,o,g⟩) F.k ho hg
 refine ⟨_,G1,e1, ?_,CF⟩
 have CG:∀{a},a∈C::cs.map (λz=>z.2)->fS κ (C::cs.map (λz=>z.2)) C a= .frame C:=λh=>if_pos h
 generalize fS κ (C::cs.map (λz=>z.2)) C=κ' at *
 have CH:∀l∈fb C cl ns,C≤l.addr/\κ' l.addr= .frame C/\pj C s'.heap l/\∃o,s'.heap.get? l.addr=some o:=λl hl=>by
  obtain ⟨x,k,hx,⟨rfl,rfl⟩ | ⟨rfl,rfl⟩⟩:=CE hl
  ·exact o0 (F.ns) λo J J g J=>⟨cb _,CG (.head _),rfl,o,g⟩
  ·refine aB (vF x hx) λa ha hm=>aa ha ?_;obtain ⟨hc,c9⟩:=F.cell x a hm;exact ⟨bO c9,CG (.tail _ (bF.mpr ⟨_,hm,rfl⟩)),⟨fH c9,none,hc⟩,hc.imp λo g=>g.1⟩
 have at_:∀{P:Nat->Loc->Prop},(∀(i:Nat) l,i<ae.length->ae[i]? =some l->P i l)->(∀(i:Nat) l,ae.length≤i->(fb C cl ns)[i - ae.length]? =some l->P i l)->∀(i:Nat) l,(ae++fb C cl ns)[i]? =some l->P i l:=λa b i l e=>by
  by_cases q:i<ae.length
  ·exact a i l q (by rwa [m8 q] at e)
  ·have q:=dA.mp q
   exact b i l q (by rwa [pO q] at e)
 have S:=e1.bb
 exact {
  tag:=CG (.head _)
  ns:=⟨_,F.ns⟩
  len:=aH de de (aH pP Ou.len rfl)
  lt:=at_ (P:=λJ l=>∃o,s'.heap.get? l.addr=some o) (λi l J h=>(Ou.lt i l h).imp (F.k _)) λi l J h=>(CH l (cr h)).2.2.2
  vals:=λi v e=>by
   by_cases q:i<m.length
   ·rw [m8 q] at e
    exact eR (Ou.vals i v e) λl y a b c=>⟨l,y,(m8 (Ou.len▸q)).trans a,b.keeps λo=>F.k _ o,c.mono S⟩
   ·rw [pO (dA.mp q),List.getElem?_replicate] at e
    split at e
    ·cases e
    ·cases e
  rd:=at_ (P:=λi l=>i∈aK ae.length->_) (λi l J h J=>(Ou.lt i l h).elim λo g=>(Ou.rd i l h).imp (λu=>(S _ o u g).1) λ⟨L',z⟩=>⟨L',⟨λq=>by
   have:=G.fr _ _ z
   obtain ⟨o',g'⟩:=G.lt L' λu=>bW (u.2.symm.trans this);exact iL _ (q▸F.old _ _ g'),F.old _ _ g⟩,(CF _ ⟨o,g⟩).trans z⟩) λi l q J hi=>absurd (fU.mp hi) (dA.mpr q)
  wr:=at_ (P:=λi l=>i∉aK ae.length->_) (λi l q J hi=>absurd (fU.mpr q) hi) λi l J h J=>have z:=CH l (cr h);⟨z.2.1,z.2.2.1⟩
  nodup:=λi j l hi h1 h2=>by
   have q:ae.length≤i:=dA.mp λq=>hi (fU.mpr q)
   rw [pO q] at h1
   have n:=(CH l (cr h1)).1
   refine at_ (P:=λj l'=>l'=l->i=j) (λj l' J h' e=> ?_) (λj l' q' h' e=> ?_) j l h2 rfl
   ·obtain ⟨o,g⟩:=Ou.lt j l' h';exact absurd (F.old _ _ g) (dA.mpr (e▸n))
   ·have:=TL hn (λx y hx hy q=>by
     refine aB (vF x hx) λa ha vP=>aB (vF y hy) λb hb yD=> ?_;rw [ha,hb] at q
     exact F.inj x y a vP ((show a=b from q)▸yD)) h1 (e▸h')
    exact sL (vQ q) (vQ q') (aa this rfl)}
theorem IL{ae:List Loc}{m:List (Option ab)}(G:bk X σ κ s)(Ou:pN ae m σ κ s.heap)(ns:List (Str×ce))(hn:jP ns=true)(cl:List (Str×Addr))(T:Value)
  (hcl:∀x,(x,l8)∈ns->cl.lookup x=none)
   (IM:s1={s with heap:=pushCells (s.heap.push {cls:=T,data:= .dict #[]}) ns}) {locs:List Loc} (CJ:locs=fb s.heap.objs.size (cellsFrom (s.heap.objs.size+1) ns cl) ns) :
  ∃κ',bk X σ κ' s1/\be (λJ=>False) σ κ s.heap σ κ' s1.heap/\gc s.heap.objs.size (ae++locs) (m++cf locs.length none) (aK ae.length) σ κ' s1.heap/\
   ∀a,(∃o,s.heap.get? a=some o)->κ' a=κ a:=by
 subst IM CJ;exact TV (s':={s with heap:=pushCells (s.heap.push {cls:=T,data:= .dict #[]}) ns}) G Ou hn (yX s.heap ns T) rfl (λx hx=>(yV ns (s.heap.objs.size+1) hx).elim λa ha=>⟨a,by refine aa (tK ..) (aa yW (aa ha ?_));rfl,mem_of_lookup ha⟩) rfl rfl
end
section
variable {idx oi:List (Str×Nat)}
theorem TW{names:List (Str×ce)} :
  (names.map λ(n,k)=>if (k==jV&&ac.scope.kind== .function&&ac.kindOf n==some .cell) then (n,l8) else (n,k)).lookup x =
   (names.lookup x).map λk=>if (k==jV&&ac.scope.kind== .function&&ac.kindOf x==some .cell)=true then .cell else k:=by
 have e:(names.map λ(n,k)=>if (k==jV&&ac.scope.kind== .function&&ac.kindOf n==some .cell) then (n,l8) else (n,k))=names.map λp=>(p.1,if (p.2==jV&&ac.scope.kind== .function&&ac.kindOf p.1==some .cell)=true then .cell else p.2) :=
  fV λp J=>by
   by_cases q:(p.2==jV&&ac.scope.kind== .function&&ac.kindOf p.1==some .cell)=true
   ·exact aa (if_pos q) (if_pos q)
   ·exact aa (if_neg q) (if_neg q)
 refine aa e ?_;clear e
 induction names with
 | nil=>rfl
 | cons p r ih =>
  refine aa eN (aa kZ (aa kZ ?_));rcases q:x==p.1 with _ | _
  ·exact ih
  ·cases eq_of_beq q;rfl
theorem IP{p:Str×ce}{r:List (Str×ce)}{C:List (Str×Nat)->Prop}(a:∀j l,p.2= .free->idx.lookup p.1=some j->hO idx r=some l->C ((p.1,j)::l))(b:∀oi,p.2≠ .free->hO idx r=some oi->C oi){oi}(h:hO idx (p::r)=some oi):C oi:=by
 change (if (p.2== .free)=true then (match idx.lookup p.1,hO idx r with | some i,some l=>some ((p.1,i)::l) | _,_=>none) else hO idx r)=some oi at h
 by_cases q:(p.2== .free)=true
 ·rw [if_pos q] at h
  rcases e1:idx.lookup p.1 with _ | j<;>rcases e2:hO idx r with _ | l<;>rw [e1,e2] at h<;>first | exact nn h | exact aM h▸a j l (eq_of_beq q) e1 e2
 ·rw [if_neg q] at h
  exact b oi (λe=>q (aa e rfl)) h
theorem TX{i:Nat}{ns:List (Str×ce)}:∀{oi:List (Str×Nat)},hO idx ns=some oi->oi.lookup x=some i->(x,jV)∈ns/\idx.lookup x=some i:=by
 induction ns with
 | nil=>exact λh q=>by cases h;exact nn q
 | cons p r ih =>
  refine λ{oi}=>IP (C:=λoi=>oi.lookup x=some i->_) (λj l hk h1 h2 q=> ?_) (λoi J h q=>(ih h q).imp (.tail _) id);rw [kZ] at q
  rcases e:x==p.1 with _ | _
  ·rw [e] at q;exact (ih h2 q).imp (.tail _) id
  ·rw [e] at q
   cases eq_of_beq e;exact ⟨ao hk (.head _),h1.trans q⟩
theorem TY{ns:List (Str×ce)}:∀{oi:List (Str×Nat)},hO idx ns=some oi->(x,jV)∈ns->∃i,idx.lookup x=some i:=by
 induction ns with
 | nil=>exact λJ q=>by cases q
 | cons p r ih =>
  refine λ{oi}=>IP (C:=λJ=>_->∃i,idx.lookup x=some i) (λj l J h1 h2 q=> ?_) (λoi hk h q=> ?_)
  ·rcases bq.mp q with rfl | q
   ·exact ⟨j,h1⟩
   ·exact ih h2 q
  ·rcases bq.mp q with rfl | q
   ·exact absurd rfl hk
   ·exact ih h q
theorem TZ{outer:List (Str×ce)}{ns:List (Str×ce)}(hf:freeOk outer ns=true)(h:(x,jV)∈ns):gJ x=false/\(outer.lookup x=some .cell∨outer.lookup x=some .free):=by
 induction ns with
 | nil=>cases h
 | cons p r ih =>
  rcases bq.mp h with rfl | h
  ·have:=bR.mp ((if_pos rfl).symm.trans (bR.mp hf).1)
   exact ⟨(l0 _).mp this.1,(IQ.mp this.2).imp eq_of_beq eq_of_beq⟩
  ·exact ih (bR.mp hf).2 h
section
variable{X:Cx}{n:Nat}{L:Addr}{ae:List Loc}{ac:Env}{c:CT}
noncomputable def CL(scope:nI)(ac:Env)(C:Addr):Env :=
 {newEnv scope C ac.globals (cellsFrom (C+1) scope.names (ij ac scope.names [])) ac.qual none .none (some ac) builtinsNs with scope:=relabel scope ac}
theorem IR(EO:dK X ac L ae c)(hs:qQ c.names scope=true)(ho:hO c.idx scope.names=some oi)(hx:(x,jV)∈scope.names) :
  (ac.kindOf x=some .cell∨ac.kindOf x=some .free)/\∃a i,ac.cells.lookup x=some a/\c.idx.lookup x=some i/\ae[i]? =some (.cell a):=by
 obtain ⟨hb,hk⟩:=TZ (bR.mp hs).2 hx;obtain ⟨i,hi⟩:=TY ho hx;refine aB (EO.idx x i hb (hk.elim (λe=>e▸rfl) λe=>e▸rfl) hi) λl hl h=> ?_;rcases h with ⟨h,_⟩ | ⟨h,a,ha,rfl⟩
 ·have no:∀{k},k≠ .local->ac.kindOf x≠some k:=λn q=>n (aM (q.symm.trans h))
  exact hk.elim (λhk=>(EO.kinds x _ hk).elim (λq=>absurd q (no (by decide))) λq=>absurd q.2 (no (by decide))) λhk=>(EO.kinds x _ hk).elim (λq=>absurd q (no (by decide))) λq=>absurd q.2 (no (by decide))
 ·exact ⟨h,a,i,ha,hi,hl⟩
theorem T0(EO:dK X ac L ae c)(hs:qQ c.names scope=true)(ho:hO c.idx scope.names=some oi)(C:Addr) :
  dK X (CL scope ac C) C (ae++fb C (cellsFrom (C+1) scope.names (ij ac scope.names [])) scope.names) (m6 c scope oi):=by
 have ik:=bR.mp hs
 have d4:=(bR.mp ik.1).2
 have lk:∀{x k},scope.names.lookup x=some k->(CL scope ac C).kindOf x=some (if (k==jV&&ac.scope.kind== .function&&ac.kindOf x==some .cell)=true then .cell else k):=λ{x k} h=>TW.trans (h▸rfl)
 refine {kind:=eq_of_beq (bR.mp ik.1).1,locals:=rfl,globals:=EO.globals,builtins:=EO.builtins,n:= ?_,G:=EO.G,tab:=ff,glob:=λx h=>lk h,kinds:=λx k h=> ?_,idx:=λx i hb hk hi=> ?_}
 ·refine aa de (aa (vN scope.names c.n) ?_);exact congrArg (λz=>z +_) EO.n
 ·by_cases q:(k==jV&&ac.scope.kind== .function&&ac.kindOf x==some .cell)=true
  ·exact .inr ⟨eq_of_beq (bR.mp (bR.mp q).1).1,(lk h).trans (congrArg _ (if_pos q))⟩
  ·exact .inl ((lk h).trans (congrArg _ (if_neg q)))
 ·have hi:(dq scope.names c.n++oi).lookup x=some i:=hi
  rw [yW] at hi
  rcases hq:(dq scope.names c.n).lookup x with _ | j
  ·rw [hq] at hi
   obtain ⟨hm,hi⟩:=TX ho hi;obtain ⟨d3,a,i',ha,l7,hl⟩:=IR EO hs ho hm;cases aM (hi.symm.trans l7)
   have l9:=n9 d4 hm
   refine ⟨_,(m8 (dr.mp hl).1).trans hl, .inr ⟨?_,a, ?_,rfl⟩⟩
   ·refine aa (lk l9) ?_
    by_cases q:(jV==jV&&ac.scope.kind== .function&&ac.kindOf x==some .cell)=true
    ·exact .inl (congrArg _ (if_pos q))
    ·exact .inr (congrArg _ (if_neg q))
   ·refine (?_:(cellsFrom (C+1) scope.names (ij ac scope.names [])).lookup x=some a);refine aa (tK ..) (aa yW (aa (TT (l:=cellsFrom (C+1) scope.names []) (λb hb=>by
     have:=l9.symm.trans (n9 d4 (TR _ _ hb));cases this)) (aa (TQ _ _ d4 hm) (aa ha ?_))));rfl
  ·rw [hq] at hi
   cases aM hi;obtain ⟨c9,k,hm,l,h,ho⟩:=CC (C:=C) (cells:=cellsFrom (C+1) scope.names (ij ac scope.names [])) _ _ hq;refine ⟨l,by rw [pO (ao EO.n c9),<-EO.n];exact h, ?_⟩;rcases ho with ⟨rfl,rfl⟩ | ⟨rfl,rfl⟩
   ·exact .inl ⟨lk (n9 d4 hm),rfl⟩
   ·obtain ⟨a,ha⟩:=yV scope.names (C+1) hm
    have IU:(cellsFrom (C+1) scope.names (ij ac scope.names [])).lookup x=some a:=by refine aa (tK ..) (aa yW (aa ha ?_));rfl
    exact .inr ⟨.inl (lk (n9 d4 hm)),a,IU,aa IU rfl⟩
theorem T1(EO:dK X ac L ae c)(hs:qQ c.names scope=true)(ho:hO c.idx scope.names=some oi):closureFor scope ac=pure (ij ac scope.names []) :=
 IH λp hp hk=>by
  obtain ⟨x,k⟩:=p;cases hk;obtain ⟨_,a,_,ha,_⟩:=IR EO hs ho hp;exact ⟨a,ha⟩
theorem T2(hn:jP scope.names=true)(hx:(x,l8)∈scope.names):(ij ac scope.names []).lookup x=none :=
 (IJ _ _ λk hk e=>by subst e;have:=(n9 hn hx).symm.trans (n9 hn hk);cases this)
theorem T3{M:Model}{A E s}{cl:List (Str×Addr)}{Q:Env->al->Prop}
  (h:Q (newEnv scope s.heap.objs.size ac.globals (cellsFrom (s.heap.objs.size+1) scope.names cl) ac.qual none .none (some ac) builtinsNs) {s with heap:=pushCells (s.heap.push {cls:= .type "dict",data:= .dict #[]}) scope.names}) :
  ai M A (newFunctionEnv scope ac.globals cl [] ac.qual none .none (some ac)) Q E s:=by
 simp only [newFunctionEnv,Option.isSome_some,if_true];refine fB (λq=>GF q) (fB (λq=>GC _ (λname kind cells=>by cases CM:kind==l8<;>simp [CM]) _ _ _ _ q) ?_);exact aa (show ({s with heap:=s.heap.push {cls:= .type "dict",data:= .dict #[]}}:al).heap.objs.size=s.heap.objs.size+1 from oa ..) (aE (aY (aY h)))
end
end
section
open scoped Classical
theorem pN.tJ{ex:Addr->Prop}{ae m σ κ h σ' κ' h' J}(Ou:pN ae m σ κ h)(e:be ex σ κ h σ' κ' h')(hv:∀(i:Nat) l,ae[i]? =some l->κ l.addr≠ .frame J):∀(i:Nat) l,ae[i]? =some l->κ' l.addr≠ .frame J:=λi l hi q =>
 (Ou.lt i l hi).elim λo g=>(Ou.rd i l hi).elim (λu=>bW ((e.bb _ o u g).1.2.symm.trans q)) λ⟨L',z⟩=>(e.qO _ o L' z g).1.elim (λh=>hv i l hi (z.trans (h.symm.trans q))) λh=>bW (h.2.symm.trans q)
section
variable{X:Cx}{n:Nat}{L:Addr}{ae:List Loc}
theorem Rel.own{κ D}(R:Rel X L ae st κ s)(hD:D≠L)(vz:∀(i:Nat) l,ae[i]? =some l->κ l.addr≠ .frame D)(ht:κ D= .frame D)
  (hl:gH s.heap D ys.toArray) (hv:aN (aj st.σ κ) s.heap vs ys) :
  ∃κ',Rel X L ae (st.put (st.σ.set D (.list vs))) κ' s/\c7 (aj st.σ κ) s.heap (aj (st.σ.set D (.list vs)) κ') s.heap/\(∀a,κ' a=if κ a= .frame D then .none else κ a)/\st.σ D=none:=by
 have G:=R.g
 have F:=R.f
 have fu:st.σ D=none:=nY λh=>bW ((G.excl D h).symm.trans ht)
 have ne:∀{a},κ a≠ .frame D->(if κ a= .frame D then Tag.none else κ a)=κ a:=λq=>if_neg q
 have pH:∀{a t},(if κ a= .frame D then Tag.none else κ a)=t->t≠ .none->κ a=t/\κ a≠ .frame D:=λ{a t} e h=>if q:κ a= .frame D then absurd ((if_pos q).symm.trans e).symm h else ⟨(ne q).symm.trans e,q⟩
 have nD:∀{a},(∀L,κ a≠ .frame L)->a≠D:=λh q=>h D (q▸ht)
 have ⟨S,G'⟩:=G.u7 (ex:=λJ=>False) (s':=s) (σ':=st.σ.set D (.list vs)) (κ':=λa=>if κ a= .frame D then Tag.none else κ a) (λJ=>GI) (λa o h J e=>⟨mX (nD h),ne (h D),e⟩) (λS=>G.tabs.bb S λJ J J e=>e)
  (λt h=>(ne λz=>bW ((G.tab t h).symm.trans z)).trans (G.tab t h)) (λS a o e=>if q:a=D then .inr (by subst q;cases aM (yE.symm.trans e);exact ⟨if_pos ht,ys,hl,hv.mono S⟩) else .inl ⟨(mX q).symm.trans e,id,λJ J=>id⟩)
  (λd a e=> .inl ⟨(pH e bW).1,id⟩) (λa h=>if q:a=D then q▸(aB hl λo g J=>⟨o,g⟩) else G.lt a λu=>h ⟨(mX q).trans u.1,(ne λz=>bW (u.2.symm.trans z)).trans u.2⟩)
  (λa L' e=>have z:=pH e bW;(ne λy=>z.2 (z.1.trans ((G.fr a L' z.1).symm.trans y))).trans (G.fr a L' z.1)) rfl rfl
 exact ⟨_,⟨G',F.Bu (ex:=(λz=>z =D)) S (λa o L' e q g=>have h:κ a≠ .frame D:=λz=>q (Tag.frame.inj (e.symm.trans z));⟨(ne h).trans e,g⟩) (iM hD) λi l L' hi z q=>vz i l hi (z.trans (congrArg _ q))⟩,S,λJ=>rfl,fu⟩
theorem eF.self{U κ I aO own b7 A E}(hh:A.handled=none)(it:eF X U κ s.heap I aO own b7)(q:Q (.ref I) s):ai X.M A (pyIter (.ref I)) Q E s:=by
 cases it with
 | one W _ _ bZ _ _ _ _ _=>exact bc ((W A hh).self _ s Q E bZ q)
 | pair W _ _ bZ _ _ _ _ _=>exact bc ((W A hh).self _ s Q E bZ q)
 | own eZ _ _=>exact PM eZ q
 | tE vD _ _ _ _ _ _ _=>obtain ⟨old,g⟩:=vD;exact Bt g q
theorem T4{A}{cF iter:Expr}{ifs:List Expr}{it acc:Value}(I:Nat->al->Prop)
  (turn:∀n s,I n s->ai X.M A (pyNext it) (λr aG=>match r with
   | none=>R (.ok .next) aG
   | some v=>ai X.M A (letOwnedTupleGo target it v) (λJ aG=>ai X.M A (assign target ac v) (λJ br =>
     ai X.M A (forIn ifs true λc r=>if r=true then do let ok<-iJ c ac (eval c ac);pure (ForInStep.yield ok) else pure (ForInStep.yield r)) (λok cD =>
      if ok=true then ai X.M A (eval cF ac) (λx mL =>
       ai X.M A (call (.builtin "list.append") [acc,x]) (λJ qJ=>∃m,m<n/\I m qJ) (λJ J=>False) mL) (λJ J=>False) cD
      else ∃m,m<n/\I m cD) (λJ J=>False) br) (λJ J=>False) aG) (λJ J=>False) aG) (λJ J=>False) s)
  (n:Nat) (h:I n s):di X.M A (.compLoop (.ListComp cF [⟨target,iter,ifs,0⟩] scope pos) 0 it acc ac) R s:=by
 refine Gs rfl rfl I (λn s hI=> ?_) n h
 show ai _ A ((compTurn (.ListComp cF [⟨target,iter,ifs,0⟩] scope pos) 0 it acc ac).onRaise (λx=>do noteFrame x ac;theTreesLotGoes x)) _ _ s
 refine nJ (aa (compTurn_list ..) ?_);refine aE (g8 (aE (weak (turn n s hI) (λr aG bM=> ?_))));cases r with
 | none=>exact aY bM
 | some v =>
  refine aE (weak bM (λJ aG bM=>aE (weak bM (λJ br cM=>aE (weak cM (λok cD mM=> ?_))))));cases ok with
  | false=>exact aY ⟨rfl,mM⟩
  | true=>exact aE (aE (weak mM (λx mL qK=>aE (weak qK (λJ qJ o9=>aY (aY ⟨rfl,o9⟩))))))
end
end
section
open scoped Classical
section
variable{X:Cx}{n:Nat}{L:Addr}{ae:List Loc}{ac:Env}{c:CT}
structure gK(X:Cx)(L:Addr)(ae:List Loc)(cz:St)(ay:bI)(h1:Heap)(C I D:Addr)(locs:List Loc)(aO:Bool)(own:List (Addr×List ab))(b7 acc:List ab)(st:St)(κ:bI)(s:al):Prop where
 rel:Rel X C (ae++locs) st κ s
 out:gc L ae cz.m cz.fz st.σ κ s.heap
 it:eF X (aj st.σ κ) κ s.heap I aO own b7
 kr:κ D= .frame D
 acc:∃ys:List Value,gH s.heap D ys.toArray/\aN (aj st.σ κ) s.heap acc ys
 dp:be (λa=>a=C∨a=I∨a=D) cz.σ ay h1 st.σ κ s.heap
 hI:∀(i:Nat) l,(ae++locs)[i]? =some l->κ l.addr≠ .frame I
 hD:∀(i:Nat) l,(ae++locs)[i]? =some l->κ l.addr≠ .frame D
 hC:∀(i:Nat) l,ae[i]? =some l->κ l.addr≠ .frame C
theorem gK.wk{X L ae cz ay h1 C I D locs aO own b7 acc st κ s}{K:St->Prop}(V:gK X L ae cz ay h1 C I D locs aO own b7 acc st κ s)(h:Wk K st):∃st',gK X L ae cz ay h1 C I D locs aO own b7 acc st' κ s/\K st' :=
 let ⟨_,k⟩:=h;⟨_,⟨V.rel.nQ,V.out,V.it,V.kr,V.acc,V.dp,V.hI,V.hD,V.hC⟩,k⟩
structure Apart(L C I D:Addr):Prop where
 LC:C≠L
 LI:I≠L
 LD:D≠L
 CI:I≠C
 CD:D≠C
 ID:D≠I
variable{cz st st':St}{ay κ κ':bI}{h1:Heap}{C I D:Addr}{locs:List Loc}{aO:Bool}{own:List (Addr×List ab)}{b7 d0 acc:List ab}{s s':al}
theorem vR{i:Nat}{l:Loc}(h:ae[i]? =some l):(ae++locs)[i]? =some l:=by rw [m8 (dr.mp h).1];exact h
theorem gK.body(V:gK X L ae cz ay h1 C I D locs aO own b7 acc st κ s)(ap:Apart L C I D)(hA:∃A:cA,A.handled=none)(r:Rel X C (ae++locs) st' κ' s')(e:be (λz=>z =C) st.σ κ s.heap st'.σ κ' s'.heap) :
  gK X L ae cz ay h1 C I D locs aO own b7 acc st' κ' s' where
 rel:=r
 out:=V.out.Bw e (iM ap.LC) λi l L' h z q=>V.hC i l h (ao q z)
 it:=V.it.dp ap.CI e hA
 kr:=let ⟨_,⟨o,g,_⟩,_⟩:=V.acc;(e.frames D o D V.kr ap.CD g).1
 acc:=let ⟨ys,⟨o,g,q⟩,v⟩:=V.acc;⟨ys,⟨o,(e.frames D o D V.kr ap.CD g).2,q⟩,v.mono e.bb⟩
 dp:=V.dp.trans (e.weaken λJ q=> .inl q)
 hI:=V.rel.f.outer.tJ e V.hI
 hD:=V.rel.f.outer.tJ e V.hD
 hC:=V.out.outer.tJ e V.hC
theorem gK.turn(V:gK X L ae cz ay h1 C I D locs aO own b7 acc st κ s)(ap:Apart L C I D)(t:jo st.σ κ I s s')(it:eF X (aj st.σ κ) κ s'.heap I aO own d0) :
  gK X L ae cz ay h1 C I D locs aO own d0 acc st κ s' where
 rel:=t.rel V.rel ap.CI V.hI
 out:=(t.rel (st:=cz.put st.σ) ⟨V.rel.g,V.out⟩ ap.LI λi l h=>V.hI i l (vR h)).f
 it:=it
 kr:=V.kr
 acc:=let ⟨ys,⟨o,g,q⟩,v⟩:=V.acc;⟨ys,⟨o,t.keep D o (by refine aa V.kr ?_;simpa using ap.ID) g,q⟩,v.mono t.bb⟩
 dp:=V.dp.trans ((t.dp (L:=C)).weaken λJ q=>q.elim .inl λz=> .inr (.inl z))
 hI:=V.hI
 hD:=V.hD
 hC:=V.hC
theorem gK.push(V:gK X L ae cz ay h1 C I D locs aO own b7 acc st κ s)(ap:Apart L C I D)(hA:∃A:cA,A.handled=none)(yY:aN (aj st.σ κ) s.heap acc ys)(hv:am (aj st.σ κ) s.heap v y)
  (hl:gH s'.heap D (ys.toArray.push y)) (hs:iI D s.heap s'.heap) (ho:s'.os=s.os) (hg:s'.gens=s.gens) :
  gK X L ae cz ay h1 C I D locs aO own b7 (acc++ [v]) st κ s':=by
 have t:jo st.σ κ D s s':=⟨λb o q e=>(hs.2 b λz=>q (z▸V.kr)).trans e,λb o q e=>if z:b=D then z▸(aB hl λo g J=>⟨o,g⟩) else ⟨o,(hs.2 b z).trans e⟩,ho,hg⟩
 exact {
  rel:=t.rel V.rel ap.CD V.hD
  out:=(t.rel (st:=cz.put st.σ) ⟨V.rel.g,V.out⟩ ap.LD λi l h=>V.hD i l (vR h)).f
  it:=V.it.dp (L:=D) (st':=st) (iM ap.ID) ((t.dp (L:=D)).weaken λJ q=>q.elim id id) hA
  kr:=V.kr
  acc:=⟨ys++ [y],by simpa using hl,(yY.append (.one hv)).mono t.bb⟩
  dp:=V.dp.trans ((t.dp (L:=C)).weaken λJ q=>q.elim .inl λz=> .inr (.inr z))
  hI:=V.hI
  hD:=V.hD
  hC:=V.hC}
inductive CN(X:Cx)(L:Addr)(ae:List Loc)(vS:aq)(ay:bI)(h1:Heap)(C I D:Addr)(K:ab->St->Prop)(s':al):Prop
 | mk (v:ab) (ba:St) (bN:bI):Rel X L ae ba bN s'->be (λa=>a=C∨a=I∨a=D) vS ay h1 ba.σ bN s'.heap->am (aj ba.σ bN) s'.heap v (.ref D)->K v ba->bN C= .frame C->(∃m,s'.heap.Ns C m)->(∀(i:Nat) l,ae[i]? =some l->bN l.addr≠ .frame C)->CN X L ae vS ay h1 C I D K s'
theorem gK.done(G1:bk X cz.σ ay s1)(V:gK X L ae cz ay s1.heap C I D locs aO own [] acc st κ s)(ap:Apart L C I D)(hI:s1.heap.get? I=none)(hD:s1.heap.get? D=none)
  (hk:∀b o,κ b≠ .frame I->s.heap.get? b=some o->s'.heap.get? b=some o) (ho:s'.os=s.os) (hg:s'.gens=s.gens) (hK:fR acc (cz.put st.σ) K):CN X L ae cz.σ ay s1.heap C I D K s':=by
 obtain ⟨pQ,ra,Sa,ha⟩:=Rel.m5 (st:=cz.put st.σ) ⟨V.rel.g,V.out⟩ ap.LI (λi l h=>V.hI i l (vR h)) hk ho hg
 have ea:=V.dp.m5 G1 hI ha Sa hk
 have na:∀{J},J≠I->κ J= .frame J->κ J≠ .frame I/\pQ J= .frame J:=λ{J} q z=>have n:κ J≠ .frame I:=λy=>q (Tag.frame.inj (z.symm.trans y));⟨n,(ha J).trans ((if_neg n).trans z)⟩
 have vb:∀{κ κ':bI} {J I:Addr} (l:Loc),(∀a,κ' a=if κ a= .frame I then .none else κ a)->κ l.addr≠ .frame J->κ' l.addr≠ .frame J:=λ{κ κ' J I} l h q z=>by
  rw [h] at z
  by_cases y:κ l.addr= .frame I
  ·rw [if_pos y] at z;exact bW z
  ·rw [if_neg y] at z;exact q z
 have nC:=na (iM ap.CI) V.rel.f.tag
 have nD:=na ap.ID V.kr
 obtain ⟨ys,⟨o,g,q⟩,hv⟩:=V.acc
 have eE:gH s'.heap D ys.toArray:=⟨o,hk D o nD.1 g,q⟩
 have vT:∃m,s'.heap.Ns C m:=Be V.rel.f.ns λml o es ep g q=>⟨ml,o,es,ep,hk C o nC.1 g,q⟩
 have IV:pQ C≠ .frame D:=λy=>ap.CD (Tag.frame.inj (nC.2.symm.trans y)).symm
 rcases hK with ⟨_,hK⟩ | ⟨_,hK⟩
 ·obtain ⟨rm,rb,Sb,hb⟩:=Rel.m5 ra ap.LD (λi l h=>vb l ha (V.hD i l (vR h))) (s':=s') (λb o Y e=>e) rfl rfl;exact ⟨_,_,rm,rb,ea.m5 G1 hD hb Sb λb o Y e=>e, .list ⟨nY λq=>bW ((V.rel.g.excl D q).symm.trans V.kr),(hb D).trans (if_pos nD.2)⟩ eE.list ((hv.mono Sa).mono Sb),hK,(hb C).trans ((if_neg IV).trans nC.2),vT,λi l h=>vb l hb (vb l ha (V.hC i l h))⟩
 ·obtain ⟨rm,rb,Sb,hb,fu⟩:=Rel.own ra ap.LD (λi l h=>vb l ha (V.hD i l (vR h))) nD.2 eE (hv.mono Sa);exact ⟨_,_,rm,rb,ea.m5 G1 hD hb Sb λb o Y e=>e, .raw _,hK D fu,(hb C).trans ((if_neg IV).trans nC.2),vT,λi l h=>vb l hb (vb l ha (V.hC i l h))⟩
theorem IW{bN:bI}{ba:St}{ex:Addr->Prop}(G1:bk X cz.σ ay s1)(r:Rel X L ae ba bN s)(e:be ex cz.σ ay s1.heap ba.σ bN s.heap)(T5:C≠L)(hC:s1.heap.get? C=none)(ht:bN C= .frame C)
  (hv:∀(i:Nat) l,ae[i]? =some l->bN l.addr≠ .frame C) (ft:∀a,ex a->a=L∨s1.heap.get? a=none) {h':Heap} (hs:iI C s.heap h') :
  ∃κ',Rel X L ae ba κ' {s with heap:=h'}/\be (λz=>z =L) cz.σ ay s1.heap ba.σ κ' h'/\c7 (aj ba.σ bN) s.heap (aj ba.σ κ') h':=by
 have hk:∀b o,bN b≠ .frame C->s.heap.get? b=some o->h'.get? b=some o:=λb o q g=>(hs.2 b λz=>q (z▸ht)).trans g
 obtain ⟨κ',r',S,jp⟩:=Rel.m5 (s':={s with heap:=h'}) r T5 hv hk rfl rfl;exact ⟨κ',r',(e.m5 G1 hC jp S hk).fresh G1 ft,S⟩
end
end
section
variable {cond:Option IB}{ifs:List Expr}
section
variable{X:Cx}{n:Nat}{L:Addr}{ae:List Loc}{ac:Env}{c:CT}
def vU(X:Cx)(n k:Nat):Prop:=∀L ae ac c,dK X ac L ae c->SE X n L ae ac c k
def vV(X:Cx)(n k:Nat):Prop:=∀L ae ac c,dK X ac L ae c->SB X n L ae ac c k
theorem T6(hB:SB X n L ae ac c k)(hc:vJ k c ifs=some cond){K:Bool->St->Prop}(h:yr X n cond K st) :
  jN X n L ae (forIn ifs true λc r=>if r=true then do let ok<-iJ c ac (eval c ac);pure (ForInStep.yield ok) else pure (ForInStep.yield r)) K st:=λA κ s hr rel=>by
 rcases ifs with _ | ⟨e,r⟩
 ·cases hc;exact PQ (.same rel rfl rfl rfl rfl h)
 ·refine dP (mV hc) λq hc=> ?_;cases yO.mp q;exact eM (f:=some) (P:=λcond=>yr X n cond K st->_) (λib h1 h=>Pu (hB e ib h1 _ _ h A κ s hr rel)) hc h
def T7(X:Cx)(L:Addr)(ae:List Loc)(A:cA)(σ:aq)(κ:bI)(h:Heap)(K:ab->St->Prop)(F:Value->al->Prop):Option (Value->Sem Unit)->Prop
 | none=>∀v y st' κ' s',Rel X L ae st' κ' s'->be (λz=>z =L) σ κ h st'.σ κ' s'.heap->am (aj st'.σ κ') s'.heap v y->K v st'->F y s'
 | some u=>∃K2:St->Prop,(∀v y aw ay s1,Rel X L ae aw ay s1->am (aj aw.σ ay) s1.heap v y->K v aw->ai X.M A (u y) (Post X L ae aw.σ ay s1.heap hH (λJ=>K2)) (λJ J=>False) s1)/\
   ∀st' κ' s',Rel X L ae st' κ' s'->be (λz=>z =L) σ κ h st'.σ κ' s'.heap->K2 st'->F .none s'
theorem T8{ns:List (Str×ce)}{aw:St}{ay bN:bI}{s2 s4:al}{I D C:Addr}{iQ:Bool}{own:List (Addr×List ab)}{cl:List (Str×Addr)}(hn:jP ns=true)(hcl:∀x,(x,l8)∈ns->cl.lookup x=none)
  (r2:Rel X L ae aw bN s2) (e2:be (λY=>False) aw.σ ay s1.heap aw.σ bN s2.heap) (CO:eF X (aj aw.σ bN) bN s2.heap I iQ own items) (vW:I≠L) (hV:∀(i:Nat) l,ae[i]? =some l->bN l.addr≠ .frame I) (CQ:∃o,s2.heap.get? I=some o) (hA:∃A:cA,A.handled=none)
  (hD:s2.heap.objs.size=D) (hC:D+1=C) (hs:s4={s2 with heap:=pushCells ((s2.heap.push {cls:= .type "list",dict:=none,data:= .seq ([]:List Value).toArray}).push {cls:= .type "dict",data:= .dict #[]}) ns}) :
  ∃mU,Apart L C I D/\gK X L ae aw ay s1.heap C I D (fb C (cellsFrom (C+1) ns cl) ns) iQ own items [] {m:=aw.m++cf (fb C (cellsFrom (C+1) ns cl) ns).length none,fz:=aK ae.length,σ:=aw.σ} mU s4:=by
 refine sM (r2.yM {cls:= .type "list",dict:=none,data:= .seq ([]:List Value).toArray}) λr3 e3 CR IX IY=> ?_
 have IZ:gH ({s2 with heap:=s2.heap.push {cls:= .type "list",dict:=none,data:= .seq ([]:List Value).toArray}}:al).heap D #[]:=⟨_,ao hD (cV _ rfl),rfl,rfl,0,rfl⟩
 have bJ:({s2 with heap:=s2.heap.push {cls:= .type "list",dict:=none,data:= .seq ([]:List Value).toArray}}:al).heap.objs.size=C:=by refine ao hC (ao hD ?_);exact oa ..
 have k3:∀b o,s2.heap.get? b=some o->({s2 with heap:=s2.heap.push {cls:= .type "list",dict:=none,data:= .seq ([]:List Value).toArray}}:al).heap.get? b=some o:=er _ _
 replace e3:be (λY=>False) aw.σ bN s2.heap aw.σ (fS bN [s2.heap.objs.size] s2.heap.objs.size) ({s2 with heap:=s2.heap.push {cls:= .type "list",dict:=none,data:= .seq ([]:List Value).toArray}}:al).heap:=e3;rw [hD] at r3 e3 CR IX IY
 have I0:fS bN [D] D D= .frame D:=if_pos (.head _)
 generalize fS bN [D] D=fo at *
 have ik:s4={({s2 with heap:=s2.heap.push {cls:= .type "list",dict:=none,data:= .seq ([]:List Value).toArray}}:al) with heap:=pushCells (({s2 with heap:=s2.heap.push {cls:= .type "list",dict:=none,data:= .seq ([]:List Value).toArray}}:al).heap.push {cls:= .type "dict",data:= .dict #[]}) ns}:=hs
 clear hs;generalize ({s2 with heap:=s2.heap.push {cls:= .type "list",dict:=none,data:= .seq ([]:List Value).toArray}}:al)=s3 at *
 refine qE (IL r3.g r3.f.outer ns hn cl (.type "dict") hcl ik rfl) λmU G4 e4 F4 I1=> ?_;replace F4:=bJ▸F4
 have I3:I<D:=CQ.elim λY g=>ao hD (cR g)
 have T9:L<C:=Be r3.f.ns λJ o J J g J=>(ao bJ (cR g))
 have ap:Apart L C I D:=⟨fH T9,vW,IX,dz (ao hC (pK I3)),dz (ao hC (jr _)),fH I3⟩
 have old:∀(i:Nat) l,ae[i]? =some l->(∃o,s2.heap.get? l.addr=some o)/\mU l.addr=bN l.addr:=λi l hl=>(r2.f.lt i l hl).elim λo g=>⟨⟨o,g⟩,(I1 _ ⟨o,k3 _ _ g⟩).trans (IY _ ⟨o,g⟩)⟩
 have I4:∀(i:Nat) l L',ae[i]? =some l->mU l.addr= .frame L'->L'<D:=λi l L' hl z=>by
  have:=r2.g.fr _ _ ((old i l hl).2.symm.trans z)
  obtain ⟨o,g⟩:=r2.g.lt L' λu=>bW (u.2.symm.trans this);exact ao hD (cR g)
 have new:∀(i:Nat) l J,(ae++fb C (cellsFrom (C+1) ns cl) ns)[i]? =some l->mU l.addr= .frame J->(∃i,ae[i]? =some l)∨J=C:=λi l J hl z=>by
  by_cases hi:i<ae.length
  ·exact .inl ⟨i,by rwa [m8 hi] at hl⟩
  ·exact .inr (Tag.frame.inj (z.symm.trans (F4.wr i l hl λq=>hi (fU.mp q)).1))
 exact ⟨mU,ap,{
  rel:=⟨G4,F4⟩
  out:=r3.f.dp e4
  it:=(CO.dp vW (qZ e3) hA (st':=aw)).dp vW (qZ e4) hA (st':={m:=_,fz:=_,σ:=aw.σ})
  kr:=(I1 _ (aB IZ λo g J=>⟨o,g⟩)).trans I0
  acc:=⟨[],let ⟨o,g,q⟩:=IZ;⟨o,(e4.frames D o D I0 id g).2,q⟩, .nil⟩
  dp:=qZ ((e2.trans e3).trans e4)
  hI:=λi l hl z=>(new i l I hl z).elim (λh=>h.elim λi h=>hV i l h ((old i l h).2.symm.trans z)) ap.CI
  hD:=λi l hl z=>(new i l D hl z).elim (λh=>h.elim λi h=>iL _ (I4 i l D h z)) ap.CD
  hC:=λi l hl z=>absurd (I4 i l _ hl z) (dA.mpr (ao hC (l6 D)))}⟩
def CS(X:Cx)(n:Nat)(tg:List Nat)(aO:Bool)(cond:Option IB)(ie:IE)(x:ab)(st:St)(K':Option ab->St->Prop):Prop:=pA tg aO x st λst=>yr X n cond (λb st=>bf b (bC X n ie (λv st=>K' (some v) st) st) (K' none st)) st
theorem T'{cF t:Expr}{tg:List Nat}{aO:Bool}{ie:IE}{rn:Env}{c':CT}{C I D:Addr}{locs:List Loc}(vX:dK X rn C (ae++locs) c')(hE:SE X n C (ae++locs) rn c' k)(hB:SB X n C (ae++locs) rn c' k)(CU:vJ k c' ifs=some cond)
  (ht:kU c' t=some (tg,aO)) (he:cE k c' cF=some ie) {aw:St} {ay:bI}  (G1:bk X aw.σ ay s1) (ap:Apart L C I D) (hI:s1.heap.get? I=none) (hD:s1.heap.get? D=none) {iQ:Bool} {own:List (Addr×List ab)} {N:Nat} (hN:dQ N) (vL:iQ=true->aO=true) {A} (hr:cG n A)  {R:al->Prop}
  (hR:∀s,CN X L ae aw.σ ay s1.heap C I D K s->R s) {k':Nat}  {st':St} {κ':bI} {b7 acc:List ab} (V:gK X L ae aw ay s1.heap C I D locs iQ own b7 acc st' κ' s')
  (hw:lW own (CS X n tg aO cond ie) (λvs st'=>fR vs (aw.put st'.σ) K) b7 acc st') (bx:b7.length<k') (c9:acc.length+b7.length≤N) {Q:Nat->al->Prop}
  (hQ:∀d0 ro st' κ' s',gK X L ae aw ay s1.heap C I D locs iQ own d0 ro st' κ' s'->lW own (CS X n tg aO cond ie) (λvs st'=>fR vs (aw.put st'.σ) K) d0 ro st'->ro.length+d0.length≤N->Q (d0.length+1) s') :
  ai X.M A (pyNext (.ref I)) (λr aG=>match r with
   | none=>R aG
   | some v=>ai X.M A (letOwnedTupleGo t (.ref I) v) (λJ aG=>ai X.M A (assign t rn v) (λJ br =>
     ai X.M A (forIn ifs true λc r=>if r=true then do let ok<-iJ c rn (eval c rn);pure (ForInStep.yield ok) else pure (ForInStep.yield r)) (λok cD =>
      if ok=true then ai X.M A (eval cF rn) (λx mL =>
       ai X.M A (call (.builtin "list.append") [.ref D,x]) (λJ qJ=>∃m,m<k'/\Q m qJ) (λJ J=>False) mL) (λJ J=>False) cD
      else ∃m,m<k'/\Q m cD) (λJ J=>False) br) (λJ J=>False) aG) (λJ J=>False) aG) (λJ J=>False) s':=by
 have Cz:Guard own st':=by cases b7<;>exact hw.1
 have hA:∃A:cA,A.handled=none:=⟨A,hr.handled⟩
 refine weak (H9 (target:=t) hr.handled V.rel Cz V.it λq=>Il ht (vL q)) λr s5 h5=> ?_;rcases r with _ | y
 ·refine Gc (h5) λgf hk Ua Ub=> ?_;subst gf;exact hR _ (V.done G1 ap hI hD hk Ua Ub hw.2)
 ·obtain ⟨x,d0,rfl,h5⟩:=h5
  have lt:d0.length+1<k':=bx
  have le:acc.length+(d0.length+1)≤N:=c9
  refine weak h5 λJ s6 tn=>weak (Ik vX hr ht (V.turn ap tn.t tn.it).rel tn.v hw.2) λJ s7 p=> ?_;obtain ⟨_,yR,I5,r7,e7,_,k7⟩:=p
  have V7:=(V.turn ap tn.t tn.it).body ap hA r7 e7
  refine chain (T6 hB CU k7) hr r7 λb s8 b' ahi Uc r8 e8 v8 k8=> ?_
  have V8:=V7.body ap hA r8 e8
  cases v8;rcases b with _ | _
  ·exact aB (V8.wk k8) λI6 V9 k9=>⟨_,lt,hQ d0 acc I6 Uc s8 V9 k9 (ag (lL (l6 _) _) le)⟩
  ·refine chain (hE cF ie he _ _ k8) hr r8 λz s9 v I6 Ud r9 e9 v9 k9=> ?_
   have V9:=V8.body ap hA r9 e9
   refine aB (V9.acc) λys Ue yY=> ?_;exact bc <| HQ Ue (λh' eE Uf=>aB ((V9.push (s':={s9 with heap:=h'}) ap hA yY v9 eE Uf rfl rfl).wk k9) λUg Uh Ui=>⟨_,lt,hQ d0 (acc++ [v]) Ug Ud {s9 with heap:=h'} Uh Ui (by refine aa de (aa (j9 ..) ?_);rewrite [lg [v].length];exact le)⟩)
    (by refine aa fE (ao yY.length ?_);exact ag (ag (b6 _ _) c9) (tD hN))
theorem I7(ok:eY X)(EO:dK X ac L ae c)(Z:m7 X n)(hE:vU X n k)(hB:vV X n k){cF t iter:Expr}{it:II}{oi:List (Str×Nat)}{tg:List Nat}{aO:Bool}{ie:IE}
  (hI:cI k c iter=some it) (ho:hO c.idx scope.names=some oi) (CU:vJ k (m6 c scope oi) ifs=some cond)
  (ht:kU (m6 c scope oi) t=some (tg,aO)) (he:cE k (m6 c scope oi) cF=some ie) (hb:nO it aO=true) (hs:qQ c.names scope=true) (Cy:∀x,foldedSetIterable iter ac x=pure x)
    (h:bC X n (.comp ie tg aO it cond (dq scope.names c.n).length) K st) {use:Option (Value->Sem Unit)} {F:Value->al->Prop} {κ s A} (hr:cG n A) (rel:Rel X L ae st κ s) {p:Pos}
  (hF:T7 X L ae A st.σ κ s.heap K F use) :
  ai X.M A (comprehension (.ListComp cF [⟨t,iter,ifs,0⟩] scope pos) scope ac p (newList []) false (eval iter ac) use) F (λJ J=>False) s:=by
 have ik:=bR.mp hs
 have d4:=(bR.mp ik.1).2
 refine PF (use:=use) rfl Cy (T1 EO hs ho) (eq_of_beq (bR.mp ik.1).1) (λx hx hl=>n9 d4 (by obtain ⟨x,k⟩:=x;cases hl;exact hx)) (weak (Iw ok EO Z (hE _ _ _ _ EO) hI hb h hr rel) λx s1 h1=>weak h1 λy s2 p=> ?_);obtain ⟨items,own,iQ,aw,ay,s1,r1,e1,⟨I,bN,rfl,pL,r2,e2,CO,vW,hV,CQ,Uj⟩,vL,aR,hw⟩:=p
 have hA:∃A:cA,A.handled=none:=⟨A,hr.handled⟩
 refine bc (qI ?_);refine T3 (aB (T8 d4 (λx hx=>T2 (ac:=ac) d4 hx) r2 e2 CO vW hV CQ hA rfl rfl rfl) λmU ap V0=> ?_);refine aa (show ({s2 with heap:=s2.heap.push {cls:= .type "list",dict:=none,data:= .seq ([]:List Value).toArray}}:al).heap.objs.size=s2.heap.objs.size+1 from oa ..) ?_
 have vX:=T0 EO hs ho (s2.heap.objs.size+1)
 have yX:∀a,s2.heap.objs.size≤a->s1.heap.get? a=none:=λa q=>by
  rcases z:s1.heap.get? a with _ | o
  ·rfl
  ·exact absurd (cR (Uj _ _ z)) (dA.mpr q)
 have fD:=yX _ (cb _)
 have fC:=yX _ (l6 _)
 rw [vN scope.names c.n,<-r2.f.len] at V0
 generalize s2.heap.objs.size=D at *
 generalize ({s2 with heap:=pushCells ((s2.heap.push {cls:= .type "list",dict:=none,data:= .seq ([]:List Value).toArray}).push {cls:= .type "dict",data:= .dict #[]}) scope.names}:al)=s4 at *
 have ft:∀a,(a=D+1∨a=I∨a=D)->a=L∨s1.heap.get? a=none:=λa q=> .inr (q.elim (λq=>aa q fC) λq=>q.elim (λq=>aa q pL) λq=>aa q fD)
 have loop:di X.M A (.compLoop (.ListComp cF [⟨t,iter,ifs,0⟩] scope pos) 0 (.ref I) (.ref D) (CL scope ac (D+1))) (Gz X.M A use F (.ref D) (D+1)) s4:=by
  refine T4 (λk s'=>∃st' κ' b7 acc,gK X L ae aw ay s1.heap (D+1) I D _ iQ own b7 acc st' κ' s'/\
   lW own (CS X n tg aO cond ie) (λvs st'=>fR vs (aw.put st'.σ) K) b7 acc st'/\b7.length<k/\acc.length+b7.length≤items.length) ?_ (items.length+1) ⟨_,mU,items,[],V0,hw,jr _,bS (m4 _)⟩
  rintro k' s' ⟨st',κ',b7,acc,V,iR,bx,c9⟩
  refine T' vX (hE _ _ _ _ vX) (hB _ _ _ _ vX) CU ht he r1.g ap pL fD aR vL hr (λs5 p=> ?_) V iR bx c9 λd0 ro st' κ' s' V h le=>⟨st',κ',d0,ro,V,h,jr _,le⟩;obtain ⟨v,ba,tA,r5,e5,v5,k5,hC5,⟨mC,I8⟩,hv5⟩:=p;rcases use with _ | u
  ·refine ⟨mC,I8,λh' Uk=> ?_⟩;exact kQ (IW r1.g r5 e5 ap.LC fC hC5 hv5 ft Uk) λpM r6 e6 S6=>hF v _ ba pM _ r6 (e1.trans e6) (v5.mono S6) k5
  ·refine aB (hF) λK2 hu hF=>weak (hu v _ ba tA s5 r5 v5 k5) λJ s6 p=> ?_;obtain ⟨_,vM,pM,r6,e6,_,k6⟩:=p;refine o0 (I8) λoC es ep gC q=> ?_;obtain ⟨Ul,Um⟩:=e6.frames _ oC _ hC5 ap.LC gC;refine ⟨mC,⟨oC,es,ep,Um,q⟩,λh' CV=> ?_⟩;exact kQ (IW (ex:=λa=>(a=D+1∨a=I∨a=D)∨a=L) r1.g r6 ((e5.weaken λJ q=> .inl q).trans (e6.weaken λJ q=> .inr q)) ap.LC fC Ul (r5.f.outer.tJ e6 hv5) (λa q=>q.elim (ft a) .inl) CV) λI5 r7 e7 S7=>hF vM I5 _ r7 (e1.trans e7) k6
 exact PC loop (V0.it.self hr.handled loop)
end
end
section
variable{X:Cx}{n:Nat}{L:Addr}{ae:List Loc}{ac:Env}{c:CT}
theorem Un{mK:Pos}{x c:Value}:∀{l:List Value},TriplesOk l->codeAmong mK (l++ [rawInt pos.line,rawInt pos.col,c])=some x->codeAmong mK l=some x∨x=c:=by
 intro l h
 fun_induction TriplesOk l with
 | case1 =>
  intro q;simp only [CW,codeAmong,rawInt] at q
  split at q
  ·cases q;exact .inr rfl
  ·cases q
 | case2 a b cc d e dH ih =>
  intro q;simp only [List.cons_append,codeAmong] at q ⊢
  split at q
  ·rename_i hq
   cases q;exact .inl (aa (if_pos hq) rfl)
  ·rename_i hq
   exact aa (if_neg hq) (ih h q)
 | case3=>exact h.elim
theorem Uo{c:Value}:∀{l:List Value},TriplesOk l->TriplesOk (l++ [rawInt pos.line,rawInt pos.col,c]):=by
 intro l h
 fun_induction TriplesOk l with
 | case1=>trivial
 | case2 a b cc d e dH ih=>exact ih h
 | case3=>exact h.elim
theorem bk.table{σ κ}(ok:eY X)(G:bk X σ κ s){t:Addr×Addr×Str}(ht:t∈X.tabs){ps:Array Value}{c':Addr}(iT:s.heap.get? t.2.1=some (tabObj ps))
  (hk:∀b o,b≠t.2.1->s.heap.get? b=some o->s'.heap.get? b=some o) (jn:s'.heap.get? t.2.1=some (tabObj (ps++ #[rawInt pos.line,rawInt pos.col, .ref c']))) (yJ:aj σ κ c') (ma:s'.heap.CodeRec (.ref c') t.2.2) (ho:s'.os=s.os) (hg:s'.gens=s.gens) :
  bk X σ κ s'/\be (λJ=>False) σ κ s.heap σ κ s'.heap:=by
 have hP:=G.tab t ht
 have ne:∀{a u},κ a=u->d9 u.ix 3=false->a≠t.2.1:=λ{a u} e h q=>bW (a:=u) (b:= .tab) (e.symm.trans (by refine aa q ?_;exact hP)) h
 have ⟨S,G'⟩:=G.u7 (s':=s') (σ':=σ) (κ':=κ) (ex:=(λz=>z =t.2.1)) (λa q u=>ne u.2 rfl q) (λa o J q e=>⟨rfl,rfl,hk a o q e⟩) (λS t' tL=>by
   obtain ⟨CX,e',hT,hA⟩:=G.tabs t' tL
   have I9:∀mK cv,codeAmong mK CX.toList=some cv->∃co,cv= .ref co/\aj σ κ co/\s'.heap.CodeRec (.ref co) t'.2.2:=λmK cv h=>kQ (hA mK cv h) λco e u r=>⟨co,e,u,x5 S u r⟩
   by_cases q:t'.2.1=t.2.1
   ·cases ok.HI t' tL t ht q
    have:CX=ps:=by have:=aM (iT.symm.trans e');injection this with _ _ e';injection e' with e';exact e'.symm
    subst this;refine ⟨_,jn,by simpa using Uo hT,λmK cv h=> ?_⟩;rcases Un hT (by simpa using h) with h | rfl
    ·exact I9 mK cv h
    ·exact ⟨c',rfl,yJ,ma⟩
   ·exact ⟨CX,hk _ _ q e',hT,I9⟩) G.tab
  (λJ a o e=> .inl ⟨e,ne (G.excl a λz=>nn (z.symm.trans e)) rfl,λd z=>ne z rfl⟩) (λd a e=> .inl ⟨e,jL (G.dict d a e) λJ J q J=>ne (G.excl a λz=>nn (z.symm.trans q)) rfl⟩)
  (λa h=>if q:a=t.2.1 then q▸⟨_,jn⟩ else (G.lt a h).imp λo=>hk a o q) G.fr ho hg
 exact ⟨G',S,λa o L' e J g=>⟨e,hk a o (ne e rfl) g⟩,λa o L' e g=>⟨.inl e,o,hk a o (ne e rfl) g⟩⟩
end
section
variable{X:Cx}{n:Nat}{L:Addr}{ae:List Loc}{ac:Env}{c:CT}
theorem Rel.freeze{κ}{i:Nat}(R:Rel X L ae st κ s)(hi:ae[i]? =some (.cell a))(hf:i∉st.fz) :
  ∃κ',Rel X L ae {st with fz:=i::st.fz} κ' s/\be (λz=>z =L) st.σ κ s.heap st.σ κ' s.heap/\aj st.σ κ' a:=by
 have G:=R.g
 have F:=R.f
 obtain ⟨ta,wa⟩:=F.wr i _ hi hf
 have ta:κ a= .frame L:=ta
 have bt:a≠L:=wa.1
 have ne:∀{b},b≠a->(if b=a then Tag.none else κ b)=κ b:=λq=>if_neg q
 have yZ:st.σ a=none:=nY λh=>bW ((G.excl a h).symm.trans ta)
 have nL:∀{b t},κ b=t->t≠ .frame L->b≠a:=λe h q=>h (e.symm.trans (q▸ta))
 have pH:∀{b t},(if b=a then Tag.none else κ b)=t->t≠ .none->κ b=t/\b≠a:=λ{b t} e h=>if q:b=a then absurd ((if_pos q).symm.trans e).symm h else ⟨(ne q).symm.trans e,q⟩
 have ⟨S,G'⟩:=G.step (s':=s) (κ':=λb=>if b=a then Tag.none else κ b) (λb o h e=>⟨ne λq=>h L (q▸ta),e⟩) (λd b e=>(pH e bW).1) (λb h=>if q:b=a then (h ⟨q▸yZ,if_pos q⟩).elim else G.lt b λu=>h ⟨u.1,(ne q).trans u.2⟩)
  (λb L' e=>have z:=G.fr b L' (pH e bW).1;(ne λq=>bt (q.symm.trans (Tag.frame.inj (z.symm.trans ((congrArg κ q).trans ta))))).trans z) rfl rfl
 refine ⟨_,⟨G',{
  tag:=(ne (iM bt)).trans F.tag
  ns:=F.ns
  len:=F.len
  lt:=F.lt
  vals:=λj v e=>eR (F.vals j v e) λl y x b cc=>⟨l,y,x,b,cc.mono S⟩
  rd:=λj l e q=>if hj:l.addr=a then .inl ⟨hj▸yZ,if_pos hj⟩ else (bq.mp q).elim (λq=>by subst q;cases aM (hi.symm.trans e);exact absurd rfl hj) λq=>(F.rd j l e q).imp (λu=>⟨u.1,(ne hj).trans u.2⟩) λ⟨L',n,z⟩=>⟨L',n,(ne hj).trans z⟩
  wr:=λj l e q=>by
   obtain ⟨t,w⟩:=F.wr j l e λz=>q (.tail _ z);refine ⟨(ne λz=> ?_).trans t,w⟩;rcases l with ⟨b,x⟩ | b
   ·exact bt ((show b=a from z).symm.trans w)
   ·cases (show b=a from z);exact q (aa (F.nodup j i _ (λz=>q (.tail _ z)) e hi) (.head _))
  nodup:=λj k l q e1 e2=>F.nodup j k l (λz=>q (.tail _ z)) e1 e2}⟩,⟨S,λb o L' e n g=>⟨(ne (nL e λq=>n (Tag.frame.inj q))).trans e,g⟩,λb o L' e g=>⟨if q:b=a then .inr ⟨q▸yZ,if_pos q⟩ else .inl ((ne q).trans e),o,g⟩⟩,yZ,if_pos rfl⟩
theorem Rel.frozen{κ}{i:Nat}(R:Rel X L ae st κ s)(hv:∀l∈ae,L≤l.addr)(hi:ae[i]? =some (.cell a))(hf:i∈st.fz):aj st.σ κ a:=by
 rcases R.f.rd i _ hi hf with u | ⟨L',⟨_,lt⟩,_⟩
 ·exact u
 ·exact absurd lt (dA.mpr (hv _ (cr hi)))
theorem Up(ok:eY X)(EO:dK X ac L ae c){p q:Str}{ps p1 p2 p3:Pos}{i:Nat}(hl:c.lam=true)(vY:(p==q)=false)(hs:yg p q scope=true)(Uq:gJ p=false)(CY:gJ q=false)
  (hq:c.names.lookup q=some .cell) (hi:c.idx.lookup q=some i) (h:bC X n (.lam i) K st) :
  bK X n L ae (eval (.Lambda ⟨[],[⟨p,none,ps⟩],none,[],[],none,[]⟩ (.Compare (.Name p p1) [.Eq] [.Name q p2] p3) scope pos) ac) K st:=λA κ s hr rel=>by
 refine tx.of (C:=λo=>st.m[i]? =o->ai X.M A (eval _ ac) (Post X L ae st.σ κ s.heap am K) _ s) h (λv h hm=>pq.of (C:=λv=>st.m[i]? =some (some v)->ai X.M A (eval _ ac) (Post X L ae st.σ κ s.heap am K) _ s) h (λb h hm=> ?_) hm) rfl
 have hK:=h.2
 obtain ⟨I',co,P,ya,Ja,tM⟩:=EO.tab hl;refine aB (EO.idx q i CY (hq▸rfl) hi) λl vZ hk=> ?_
 have Ur:ac.kindOf q=some .cell:=(EO.kinds q _ hq).resolve_right λh=>by cases h.1
 obtain ⟨a,ha,rfl⟩:∃a,ac.cells.lookup q=some a/\l= .cell a:=by
  rcases hk with ⟨h,_⟩ | ⟨_,h⟩
  ·rw [Ur] at h;cases h
  ·exact h
 refine eR (rel.f.vals i _ hm) λl' y eE tC B7=> ?_;rw [vZ] at eE;cases eE
 obtain ⟨t,rfl⟩:=B7.mI
 have vH:s.heap.IsCell a (some (.bytes b.toArray t)):=tC
 refine kQ (rel.g.tabs _ tM) λUs CZ hT hA=> ?_;obtain ⟨mg,mb,mW,yD,HM,bm,ob,b1,b2,b3,b4,b5⟩:=ok.glob
 have Jb:∀x o,X.h₀.get? x=some o->x≠P:=λx o e z=>by
  have a1:=(rel.g.base x o e).2
  have a2:=rel.g.tab _ tM
  rw [z] at a1
  rw [show κ P=Tag.tab from a2] at a1;exact bW a1
 have Ut:mainGlobals≠P:=by obtain ⟨o,_,_,e,_⟩:=mW;exact Jb _ o e
 have hb:s.heap.BuiltinsAt mg P:=⟨bm,ob,b1,b2,b3,Jb _ _ b4,rel.g.keep _ _ b4,b5⟩
 simp only [yg,q9,beq_iff_eq,l0] at hs
 obtain ⟨⟨⟨v6,Uu⟩,Uv⟩,mN⟩:=hs
 have hcl:closureFor scope ac=pure [(q,a)]:=by
  rw [IH λx hx og=> ?_,mN]
  ·simp [yU,TM,ha]
  ·rw [mN] at hx
   simp only [bq,dJ,or_false] at hx
   rcases hx with rfl | rfl
   ·cases og
   ·exact ⟨a,ha⟩
 have bg:∀(s1:al) (f:Addr) (pm ct:Value) (c':Addr),Rel X L ae st κ s1->be (λJ=>False) st.σ κ s.heap st.σ κ s1.heap->aj st.σ κ f->aj st.σ κ c'->s1.heap.CodeRec (.ref c') (ac.qual++ "<lambda>")->
   s1.heap.get? f=some {cls:= .type "function",data:= .func (kla_fn "<lambda>" (ac.qual++ "<lambda>") ⟨[],[⟨p,none,ps⟩],none,[],[],none,[]⟩ (.Compare (.Name p p1) [.Eq] [.Name q p2] p3) scope [(q,a)] pm (.ref c') ct)}->
   Post X L ae st.σ κ s.heap am K (.ref f) s1:=by
  intro s1 f pm ct c' r1 e1 uf uc ma hf
  have q6:s1.heap.IsCell a (some (.bytes b.toArray t)):=by
   refine aB (vH) λo g d=> ?_
   by_cases jS:i∈st.fz
   ·exact ⟨o,(e1.bb a o (rel.frozen I' vZ jS) g).2,d⟩
   ·exact ⟨o,(e1.frames a o L (rel.f.wr i _ vZ jS).1 id g).2,d⟩
  have mk:∀{κ':bI},c7 (aj st.σ κ) s1.heap (aj st.σ κ') s1.heap->aj st.σ κ' a->am (aj st.σ κ') s1.heap (.lam b) (.ref f):=λ{κ'} S ua=>by
   exact .lam (S f _ uf hf).1 ua ⟨_,p,q,scope,pm,ct,c',ps,p1,p2,p3,hf,ma,(xZ S uc ma).1,v6,Uu,Uv,mN,(tB Uq).1,(tB CY).1,(tB CY).2,vY⟩ q6
  by_cases jS:i∈st.fz
  ·exact ⟨.lam b,{st with fz:=i::st.fz},κ,⟨r1.g,by
    have F:=r1.f
    exact {F with
     rd:=λj l e z=>F.rd j l e (by rcases bq.mp z with rfl | z;exact jS;exact z)
     wr:=λj l e z=>F.wr j l e λy=>z (.tail _ y)
     nodup:=λj k l z e1 e2=>F.nodup j k l (λy=>z (.tail _ y)) e1 e2}⟩,qZ e1,mk .refl (rel.frozen I' vZ jS),hK⟩
  ·obtain ⟨κ',r2,e2,ua⟩:=r1.freeze vZ jS;exact ⟨.lam b,{st with fz:=i::st.fz},κ',r2,(qZ e1).trans e2,mk e2.bb ua,hK⟩
 have C0:∀a,s.heap.objs.size≤a->aj st.σ κ a:=λa ha=>nY λh=>iE (rel.g.lt _ h) λJ e=>absurd (cR e) (dA.mpr ha)
 refine kla_eval rfl ?_;cases hm:codeAmong pos Us.toList with
 | none =>
  refine bc <| PySem.W.kla_makeFunction (mg:=mg) hcl EO.globals (mW.keeps rel.g.keep) ya (Ja.keeps rel.g.keep) CZ hT hm Ut hb λc' C1 h' tk hx v7 bx ma Uw=> ?_
  obtain ⟨G1,e1⟩:=rel.g.table (s':={s with heap:=h',toks:=tk}) ok tM CZ hx Uw (C0 c' v7) ma rfl rfl
  have r1:Rel X L ae st κ {s with heap:=h',toks:=tk}:=⟨G1,rel.f.dp e1⟩
  refine bg _ _ _ C1 c' (r1.ext (er _ _) rfl rfl) (e1.trans (.ext (er _ _))) (iK r1.g) (C0 c' v7) (x5 (gI (er _ _)) (C0 c' v7) ma) (cV _ rfl)
 | some cv =>
  refine kQ (hA pos cv hm) λc' a0 uc ma=> ?_;subst a0;refine bc <| PySem.W.kla_makeFunctionHit (mg:=mg) hcl EO.globals (mW.keeps rel.g.keep) ya (Ja.keeps rel.g.keep) CZ hT hm hb λC1 h' tk hk bJ=> ?_
  have r1:Rel X L ae st κ {s with heap:=h',toks:=tk}:=rel.ext hk rfl rfl
  refine bg _ _ _ C1 c' (r1.ext (er _ _) rfl rfl) ((be.ext hk).trans (.ext (er _ _))) (iK r1.g) uc (x5 (gI λb o e=>er _ _ b o (hk b o e)) uc ma) (cV _ rfl)
end
section
variable{X:Cx}{n:Nat}{L:Addr}{ae:List Loc}{ac:Env}{c:CT}
theorem Ux{f:α->Option β}:∀{r:List β},l.mapM f=some r->r.length=l.length:=by
 induction l with
 | nil=>exact mn (C:=λr=>r.length=0) rfl
 | cons a l ih=>exact mc (C:=λr=>r.length=l.length+1) λb bs J h=>congrArg (λz=>z +1) (ih h)
theorem jl.mono{K K':Bool->St->Prop}(h:jl v st K)(k:∀b st,K b st->K' b st):jl v st K':=jl.of (C:=λv=>jl v st K') h λb h=>k b st h
theorem Uy(hE:SE X n L ae ac c k){bT:Bool}:∀{is:List IE} {st:St},es.mapM (cE k c)=some is->pD X n bT is K st->yz X n L ae ac bT es K st:=by
 induction es with
 | nil=>exact λ{is st}=>mn (C:=λis=>pD X n bT is K st->False) λh=>h
 | cons e es ih =>
  exact λ{is st}=>mc (C:=λis=>pD X n bT is K st->yz X n L ae ac bT (e::es) K st) λi is h1 h2 hw=>by
   rcases es with _ | ⟨e',es⟩
   ·exact mn (C:=λis=>pD X n bT (i::is) K st->_) (hE e i h1 K st) h2 hw
   ·have ih:=λst=>ih (st:=st) h2
    exact mc (C:=λis=>(∀st,pD X n bT is K st->yz X n L ae ac bT (e'::es) K st)->pD X n bT (i::is) K st->_) (λi' ahj J J ih hw=>(hE e i h1 _ _ hw).mono λv st k=>k.mono λb st q=>ke.mono q (ih st) id) h2 ih hw
theorem Uz(hB:SB X n L ae ac c k){bT:Bool}{K:Bool->St->Prop}:∀{is:List IB} {st:St},es.mapM (cB k c)=some is->vo X n bT is K st->yx X n L ae ac bT es K st:=by
 induction es with
 | nil=>exact λ{is st}=>mn (C:=λis=>vo X n bT is K st->K bT st) λh=>h
 | cons e es ih =>
  refine λ{is st}=>mc (C:=λis=>vo X n bT is K st->yx X n L ae ac bT (e::es) K st) λi is h1 h2 hw=> ?_;cases is with
  | nil=>exact (hB e i h1 _ _ hw).mono λb st q=>ke.mono (ke.of (k:=λb=>K b st) q) (ih h2) id
  | cons j js=>exact (hB e i h1 _ _ hw).mono λb st q=>ke.mono q (ih h2) id
theorem Jc{f:Expr->Option IE}{P:uR->Str×IE->Prop}(h:∀x e p i,f e=some i->P ⟨some x,e,p⟩ (x,i)){k:uR}{r:Str×IE}(hc:u9 f k=some r):P k r:=by
 rcases k with ⟨_ | x,e,p⟩
 ·exact nn hc
 ·exact eM (λi h1=>h x e p i h1) hc
theorem UA(hE:SE X n L ae ac c k):∀{is:List (Str×IE)} {K:List (Str×ab)->St->Prop} {st:St},ks.mapM (u9 (cE k c))=some is->qX X n is K st->pF X n L ae ac ks K st:=by
 induction ks with
 | nil=>exact λ{is K st}=>mn (C:=λis=>qX X n is K st->K [] st) λh=>h
 | cons a r ih=>exact λ{is K st}=>mc (C:=λis=>qX X n is K st->pF X n L ae ac (a::r) K st) λb bs h1 h2=>Jc (P:=λa b=>qX X n (b::bs) K st->pF X n L ae ac (a::r) K st) (λx e p i h hw=>(hE e i h _ _ hw).mono λv st k=>ih h2 k) h1
theorem UB:∀{is:List (Str×IE)},ks.mapM (u9 (cE k c))=some is->ks.all (λz=>z.arg.isSome)=true:=by
 induction ks with
 | nil=>exact λJ=>rfl
 | cons a r ih=>exact mc (C:=λJ=>(a::r).all (λz=>z.arg.isSome)=true) λb bs h1 h2=>bR.mpr ⟨Jc (P:=λa J=>a.arg.isSome=true) (λJ J J J J=>rfl) h1,ih h2⟩
end
section
variable{X:Cx}{n:Nat}
def UC(e:Expr):Prop:=∀ac,iJ e ac (eval e ac)=(eval e ac>>=λv=>standAt e.pos>>=λJ=>holding [v] (truthy v))
theorem UD{c:CT}{P:Expr->IB->Prop}(not:∀a p ia,cB k c a=some ia->P (.UnaryOp .Not a p) (.not ia))(bool:∀o es p is,es.mapM (cB k c)=some is->P (.BoolOp o es p) (.bool (o== .And) is))
  (cmp:∀a o b p ia ib,cE k c a=some ia->cE k c b=some ib->P (.Compare a [o] [b] p) (.cmp o ia ib))
  (kc:∀a o1 o2 b1 b2 p ia i1 i2,cE k c a=some ia->cE k c b1=some i1->cE k c b2=some i2->P (.Compare a [o1,o2] [b1,b2] p) (.kc o1 o2 ia i1 i2))
  (val:∀e ie,UC e->cE k c e=some ie->P e (.val ie))  {i:IB} (h:cB (k+1) c e=some i):P e i:=by
 rcases e with ⟨⟩<;>first | exact eM (λz=>val _ z λJ=>rfl) h | exact nn h | exact b1 (bool _ _ _) h | skip
 ·rcases op with ⟨⟩<;>first | exact b1 (not _ _) h | exact eM (λz=>val _ z λJ=>rfl) h
 ·rcases ops with _ | ⟨o1,_ | ⟨o2,_ | _⟩⟩<;>rcases comparators with _ | ⟨r1,_ | ⟨r2,_ | _⟩⟩<;>first | exact b2 (cmp _ _ _ _) h | exact b3 (kc _ _ _ _ _ _) h | exact eM (λie h1=>by rcases k with _ | _<;>exact nn h1) h
theorem UE(ok:eY X)(O:Ops X n)(hE:vU X n k)(hB:vV X n k):vV X n (k+1):=λL ae ac c EO e i hc =>
 have E:=hE L ae ac c EO
 have B:=hB L ae ac c EO
 UD (P:=λe i=>∀K st,nW X n i K st->jN X n L ae (iJ e ac (eval e ac)) K st) (λa p ia h1 K st h=>Sc (B a ia h1 _ _ h)) (λo es p is h1 K st h=>Sf (Uz B h1 h))
  (λa o b p ia ib h1 h2 K st h=>R8 O (yP (pJ h2)) ((E a ia h1 _ _ h).mono λv st k=>E b ib h2 _ _ k))
  (λa o1 o2 b1 b2 p ia i1 i2 h1 h2 h3 K st h=>Sm O (yP (pJ h3)) ((E a ia h1 _ _ h).mono λv st k=>(E b1 i1 h2 _ _ k).mono λw st k=>eX.mono k λr q=>bf.mono q (E b2 i2 h3 _ _) id))
  (λe ie he h1 K st h=>Sd (he ac) (E e ie h1 _ _ h)) hc
end
section
variable{X:Cx}{n:Nat}
theorem C2{c:CT}{i:II}(h:cI k c e=some i):pI e=true:=Iv (P:=λe J=>pI e=true) (λJ J h=>pJ h) (λJ J J J J J J J J J=>rfl) h
theorem UF(h:pI e=true):∀a b c d,e≠ .Slice a b c d:=λJ J J J q=>by subst q;exact ff h
theorem UG(ok:eY X)(O:Ops X n)(Z:m7 X n)(hE:vU X n k)(hB:vV X n k):vU X n (k+1):=λL ae ac c EO e i hc =>
 have E:=hE L ae ac c EO
 have B:=hB L ae ac c EO
 To (P:=λe i=>∀K st,bC X n i K st->bK X n L ae (eval e ac) K st) (λv p q w h1 K st h=>R3 h1 h) (λx p i h1 K st h=>B6 ok EO h1 h)
  (λa o b p ia ib h1 h2 K st h=>R4 O ((E a ia h1 _ _ h).mono λv st k=>E b ib h2 _ _ k)) (λa p ia h1 K st h=>R5 O (E a ia h1 _ _ h)) (λa p ia h1 K st h=>R6 (E a ia h1 _ _ h)) (λo es p is h1 K st h=>Sg (Uy E h1 h))
  (λt a b p it ia ib h1 h2 h3 K st h=>R9 ((B t it h1 _ _ h).mono λc st q=>bf.mono q (E a ia h2 _ _) (E b ib h3 _ _)))
  (λa o b p ia ib h1 h2 K st h=>R7 O (yP (pJ h2)) ((E a ia h1 _ _ h).mono λv st k=>E b ib h2 _ _ k))
  (λa o1 o2 b1 b2 p ia i1 i2 h1 h2 h3 K st h=>Sl O (yP (pJ h3)) ((E a ia h1 _ _ h).mono λv st k=>(E b1 i1 h2 _ _ k).mono λw st k=>eX.mono k λr q=>bf.mono q (E b2 i2 h3 _ _) id))
  (λo x ap as p io is g1 g2 g3 h1 h2 K st h=>SF g1 g2 g3 (re h2) ((E o io h1 _ _ h).mono λv st k=>k.casesOn λg r q=>⟨g,r,rf E h2 q⟩))
  (λx q as ks p i is Ct h1 h2 h3 K st h=>SD rfl (re h2) (UB h3) ((B6 ok EO h1 (Qr _ _ h)).mono λv st k=>(rf E h2 k).mono λvs st q=>UA E h3 q))
  (λo x p io g h1 K st h=>SI O g (E o io h1 _ _ h)) (λo lo hi q p io l u h1 h2 h3 K st h=>SK O ((E o io h3 _ _ h).mono λv st k=>IA E h1 h2 k))
  (λo i p io ii h1 h2 K st h=>SJ O (UF (pJ h2)) ((E o io h1 _ _ h).mono λv st k=>E i ii h2 _ _ k)) (λes m p is h1 K st h=>Su (Cd (re h1) (rf E h1 h))) (λes p is h1 K st h=>Sw (Cd (re h1) (rf E h1 h)))
  (λcF t it ifs scope p gw oi cond tg aO ie h1 h2 h3 h4 h5 h6 h7 K st h A κ s hr rel=>ao ((eval_ListComp ..).symm) (I7 ok EO Z hE hB h1 h2 h3 h4 h5 h6 h7 (Cv (C2 h1)) h (use:=none) hr rel λv y st' κ' s' r e v1 k1=> .to r e v1 k1))
  (λargs body scope p i h1=>Tm (P:=λargs body i=>∀K st,bC X n i K st->bK X n L ae (eval (.Lambda args body scope p) ac) K st) (λp q ps p1 p2 p3 j g1 g2 g3 g4 g5 g6 g7 K st h=>Up ok EO g1 g2 g3 g4 g5 g6 g7 h) h1) hc
end
section
variable {is:List Nat}{line:Nat}{ts:List Expr}
noncomputable def pR(ac:Env)(line:Nat)(e:Expr):Option Str:=Bx (λJ=>Option Str) e (λid pos=>if ac.kindOf id==some .local&&pos.line==line then some id else none) λJ=>none
theorem UH{vs:List Expr}{k2:Nat}{p p2:Pos}(hb:tc (.Tuple vs k2 p2)=false) :
  swappedStores [.Tuple ts k p] (.Tuple vs k2 p2) ac=pure none∨∃names line,swappedStores [.Tuple ts k p] (.Tuple vs k2 p2) ac=pure (some names)/\(ts.length=2∨ts.length=3)/\
   names=ts.filterMap (pR ac line)/\names.length=ts.length/\names.eraseDups.length=names.length:=by
 unfold swappedStores;dsimp only
 split
 ·exact .inl rfl
 rename_i c1
 split
 ·exact .inl rfl
 generalize hN:ts.filterMap _=N
 have UI:N=ts.filterMap (pR ac ((ts.head?.map (λz=>z.pos.line)).getD 0)):=by
  refine ao hN ?_;congr 1
 split
 ·exact .inl rfl
 rename_i c3
 split
 ·exact .inl rfl
 have c5:vs.all (constantsAlone 8)=false:=hb
 refine aa c5 ?_
 right
 simp only [UJ,not_or,bne_iff_ne,ne_eq,Decidable.not_not,l0,beq_iff_eq] at c1 c3
 refine ⟨N,_,rfl, ?_,UI,c3.1,c3.2⟩
 have:=c1.1.1
 simp at this
 by_cases q:ts.length=2
 ·exact .inl q
 ·exact .inr (by simpa [q] using this)
theorem UK{t:Expr}(h:pR ac line t=some x):∃p,t= .Name x p/\ac.kindOf x=some .local:=by
 rcases t with ⟨⟩<;>first | exact nn h | skip
 by_cases q:(ac.kindOf id==some .local&&pos.line==line)=true
 ·cases aM ((if_pos q).symm.trans h);exact ⟨pos,rfl,eq_of_beq (bR.mp q).1⟩
 ·exact nn ((if_neg q).symm.trans h)
theorem UL(n:Nat):∀l:List Str,l.length≤n->l.eraseDups.length≤l.length:=by
 induction n with
 | zero=>exact λl h=>by cases y6.mp (UM.mp h);exact cb _
 | succ n ih =>
  intro l h;rcases l with _ | ⟨a,l⟩
  ·exact cb _
  ·refine aa UN ?_
   have f:=UO (λb=> !b==a) l
   exact fO (ag (ih _ (ag f (Jd h))) f)
theorem UP{l:List Str}(h:l.eraseDups.length=l.length):l.Nodup:=by
 induction l with
 | nil=>exact .nil
 | cons a l ih =>
  rw [UN] at h
  have h:=qU h
  have f:=UO (λb=> !b==a) l
  have g:=UL _ _ (cb (l.filter λb=> !b==a).length)
  have e:l.filter (λb=> !b==a)=l:=UQ.mpr (List.length_filter_eq_length_iff.mp (yI f (ao h g)))
  rw [e] at h
  exact fW.mpr ⟨λm=>by have:=UQ.mp e a m;rw [beq_self_eq_true] at this;exact ff this,ih h⟩
section
variable{X:Cx}{n:Nat}{L:Addr}{ae:List Loc}{ac:Env}{c:CT}
theorem UR(EO:dK X ac L ae c){y:Str}{i:Nat}(hx:jO c x=some i)(hy:jO c y=some i)(kx:ac.kindOf x=some .local)(ky:ac.kindOf y=some .local):x=y:=by
 have at_:∀{x:Str},jO c x=some i->ac.kindOf x=some .local->ae[i]? =some (.loc L x):=λ{x} hc hk=>by
  obtain ⟨hb,h1,h2⟩:=HK hc;obtain ⟨l,hl,h⟩:=EO.idx x i hb h1 h2;rcases h with ⟨_,rfl⟩ | ⟨h,_⟩
  ·exact hl
  ·rw [hk] at h;rcases h with h | h<;>cases h
 cases aM ((at_ hx kx).symm.trans (at_ hy ky));rfl
def Placed(ac:Env)(c:CT)(ps:List (Str×Nat)):Prop:=∀p∈ps,jO c p.1=some p.2/\ac.kindOf p.1=some .local
def y7(ac:Env)(c:CT)(line:Nat)(ts:List Expr)(cJ:List IT):Prop:=∃ps,ts.filterMap (pR ac line)=ps.map (λz=>z.1)/\cJ=ps.map (λp=>IT.v p.2)/\Placed ac c ps
theorem US:∀{cJ:List IT},(ts.filterMap (pR ac line)).length=ts.length->ts.mapM (cT k c)=some cJ->y7 ac c line ts cJ:=by
 induction ts with
 | nil=>exact λJ=>mn (C:=y7 ac c line []) ⟨[],rfl,rfl,λJ h=>by cases h⟩
 | cons t ts ih =>
  refine λhf=>mc (C:=y7 ac c line (t::ts)) λit cJ h1 h2=> ?_;unfold y7;rcases q:pR ac line t with _ | x
  ·rw [C3 q] at hf
   exact absurd (tN (pR ac line) ts) (C4.mpr (hf▸jr _))
  ·rw [y8 q] at hf ⊢
   obtain ⟨ps,e1,e2,h⟩:=ih (qU hf) h2;obtain ⟨p,rfl,hk⟩:=UK q;obtain ⟨i,hi,rfl⟩:=lQ.mp (show (jO c x).map IT.v=some it from h1);exact ⟨(x,i)::ps,aa e1 rfl,aa e2 rfl,λp hp=>(bq.mp hp).elim (λe=>e▸⟨hi,hk⟩) (h p)⟩
theorem UT{ps:List (Str×Nat)}:∀{vs:List ab} {st:St} {K:St->Prop},nX X n (ps.map λp=>IT.v p.2) vs K st->gh (ps.map (λz=>z.2)) vs st K:=by
 induction ps with
 | nil=>exact λ{vs _ _} h=>by rcases vs with _ | _<;>exact h
 | cons p ps ih=>exact λ{vs _ _} h=>by rcases vs with _ | _;exact h;exact cX.of h λc k=>cX.i c (ih k)
theorem UU{i:Nat}:∀{vs:List ab} {st:St} {K:St->Prop},i∉is->pz i v st (λst=>gh is vs st K)->gh is vs st λst=>pz i v st K:=by
 induction is with
 | nil=>exact λ{vs _ _} _ h=>by rcases vs with _ | _;exact h;exact cX.of h λJ k=>k
 | cons j is ih =>
  refine λ{vs st K} hi h=> ?_;rcases vs with _ | ⟨w,vs⟩
  ·exact cX.of h λJ k=>k
  ·have du:j≠i:=λe=>hi (ao e (.head _))
   refine cX.of h λc k=>cX.of k λd k=>cX.i (GY.symm.trans d) (ih (λm=>hi (.tail _ m)) (cX.i (GY.trans c) ?_));refine (?_:gh is vs {m:=(st.m.set j (some w)).set i (some v),fz:=st.fz,σ:=st.σ} K);exact aa (List.set_comm _ _ du) k
theorem UV{js:List Nat}{ws:List ab}{K:St->Prop}:∀{vs:List ab} {st:St},gh is vs st (λst=>gh js ws st K)->gh (is++js) (vs++ws) st K:=by
 induction is with
 | nil=>exact λ{vs _} h=>by rcases vs with _ | _;exact h;exact h.elim
 | cons j is ih=>exact λ{vs _} h=>by rcases vs with _ | _;exact h.elim;exact cX.of h λc k=>cX.i c (ih k)
theorem UW:∀{vs:List ab} {st:St} {K:St->Prop},is.Nodup->gh is vs st K->gh is.reverse vs.reverse st K:=by
 induction is with
 | nil=>exact λ{vs _ _} _ h=>by rcases vs with _ | _;exact h;exact h.elim
 | cons i is ih =>
  refine λ{vs st K} hn h=> ?_;rcases vs with _ | ⟨v,vs⟩
  ·exact h.elim
  ·exact aH C5 C5 (UV (ih (fW.mp hn).2 (UU (fW.mp hn).1 h)))
theorem Je{A s}{Q:Unit->al->Prop}(h:Q () s):ai X.M A (assignInOrder [] ys) Q (λJ J=>False) s:=by
 rcases ys with _ | _<;>exact aY h
theorem UX(EO:dK X ac L ae c){A}{K:St->Prop}{ps:List (Str×Nat)}:∀{vs:List ab} {ys:List Value} {st:St} {κ s},Placed ac c ps->Rel X L ae st κ s->aN (aj st.σ κ) s.heap vs ys->gh (ps.map (λz=>z.2)) vs st K->
  ai X.M A (assignInOrder ((ps.map (λz=>z.1)).map λx=>bindName ac x) ys) (Post X L ae st.σ κ s.heap hH (λJ=>K)) (λJ J=>False) s:=by
 induction ps with
 | nil=>exact λ{vs _ _ _ _} _ rel hv h=>by rcases vs with _ | _;exact Je (.same (b:=()) rel rfl rfl rfl trivial h);exact h.elim
 | cons p ps ih =>
  refine λ{vs ys st κ s} hp rel hv h=> ?_;rcases vs with _ | ⟨v,vs⟩
  ·exact h.elim
  ·refine hv.c λy ys jq hV=> ?_;exact aE (cj (Go (weak (Ch EO (hp p (.head _)).1 rel jq h) λJ s1 q=>by
    obtain ⟨_,aw,ay,r1,e1,_,k1⟩:=q;exact weak (ih (λp q=>hp p (.tail _ q)) r1 (hV.mono e1.bb) k1) λJ J p=>p.trans e1)))
theorem UY(EO:dK X ac L ae c){ps:List (Str×Nat)}(hp:Placed ac c ps)(hn:(ps.map (λz=>z.1)).Nodup):(ps.map (λz=>z.2)).Nodup:=by
 induction ps with
 | nil=>exact .nil
 | cons p ps ih =>
  refine fW.mpr ⟨λm=> ?_,ih (λp q=>hp p (.tail _ q)) (fW.mp hn).2⟩;obtain ⟨q,hq,e⟩:=bF.mp m
  have a:=hp p (.head _)
  have b:=hp q (.tail _ hq)
  exact (fW.mp hn).1 (bF.mpr ⟨q,hq,(UR EO a.1 (b.1.trans (congrArg some e)) a.2 b.2).symm⟩)
theorem VR.rev{U h vs ys}(r:aN U h vs ys):aN U h vs.reverse ys.reverse:=r.ind (P:=λvs ys=>aN U h vs.reverse ys.reverse) .nil λa J ih=>by
 exact aH C5 C5 (ih.append (.one a))
theorem UZ(EO:dK X ac L ae c){cJ:List IT}{K:St->Prop}{κ s A}(hn:names=ts.filterMap (pR ac line))(hf:names.length=ts.length)
  (hd:names.eraseDups.length=names.length) (hc:ts.mapM (cT k c)=some cJ) (rel:Rel X L ae st κ s) (hv:aN (aj st.σ κ) s.heap vs ys) (h:nX X n cJ vs K st) :
  ai X.M A (assignInOrder (names.reverse.map λx=>bindName ac x) ys.reverse) (Post X L ae st.σ κ s.heap hH (λJ=>K)) (λJ J=>False) s:=by
 subst hn;obtain ⟨ps,e1,rfl,hp⟩:=US hf hc;rw [e1] at hd ⊢
 exact ao U0 (UX EO (λp q=>hp p (PH.mp q)) rel hv.rev (aa U0 (UW (UY EO hp (UP hd)) (UT h))))
end
end
section
variable{X:Cx}{n:Nat}{L:Addr}{ae:List Loc}{ac:Env}{c:CT}
theorem wc(ok:eY X)(O:Ops X n)(Z:m7 X n)(k:Nat):vU X n k/\vV X n k :=
 k.rec ⟨λJ J J J J J J h=>nn h,λJ J J J J J J h=>nn h⟩ λJ h=>⟨UG ok O Z h.1 h.2,UE ok O h.1 h.2⟩
noncomputable def y9(t:Expr):Bool:=d9 t.ctorIdx 23 || d9 t.ctorIdx 20 || d9 t.ctorIdx 21
theorem C6{t:Expr}{it:IT}(h:cT k c t=some it):y9 t=true:=CA (P:=λt J=>y9 t=true) (λJ J J J=>rfl) (λJ J J J J=>rfl) (λJ J J J J J J J J J J=>rfl) (λJ J J J J J J=>rfl) h
theorem U1(ac:Env){ts:List Expr}:∀{cJ:List IT},ts.mapM (cT k c)=some cJ->(assignEach ts ac).length=cJ.length/\(assignEach ts ac).findIdx? (λz=>z.1)=none/\(assignEach ts ac).map (λz=>z.2)=ts.map λt=>assign t ac:=by
 induction ts with
 | nil=>exact λ{cJ}=>mn (C:=λcJ=>0=cJ.length/\_) ⟨rfl,rfl,rfl⟩
 | cons t ts ih =>
  refine λ{cJ}=>mc (C:=λcJ=>(assignEach (t::ts) ac).length=cJ.length/\_) λi is h1 h2=> ?_
  have e:assignEach (t::ts) ac=(false,assign t ac)::assignEach ts ac:=CA (P:=λt J=>assignEach (t::ts) ac=(false,assign t ac)::assignEach ts ac) (λJ J J J=>rfl) (λJ J J J J=>rfl) (λJ J J J J J J J J J J=>rfl) (λJ J J J J J J=>rfl) h1
  exact aa e (⟨congrArg (λz=>z +1) (ih h2).1,Ta.trans (by refine aa ((ih h2).2.1) ?_;rfl),congrArg (λz=>_:: z) (ih h2).2.2⟩)
variable(O:Ops X n)
include O
theorem U2(EO:dK X ac L ae c)(hE:SE X n L ae ac c k){A}(hr:cG n A){K:St->Prop}{ts:List Expr}:∀{cJ:List IT} {vs:List ab} {ys:List Value} {st:St} {κ s},ts.mapM (cT k c)=some cJ->
  Rel X L ae st κ s->aN (aj st.σ κ) s.heap vs ys->nX X n cJ vs K st->ai X.M A (assignInOrder (ts.map λt=>assign t ac) ys) (Post X L ae st.σ κ s.heap hH (λJ=>K)) (λJ J=>False) s:=by
 induction ts with
 | nil=>exact λ{cJ vs ys st κ s} hc rel hv h=>mn (C:=λcJ=>nX X n cJ vs K st->_) (λh=>by rcases vs with _ | _;exact Je (.same (b:=()) rel rfl rfl rfl trivial h);exact h.elim) hc h
 | cons t ts ih =>
  refine λ{cJ vs ys st κ s} hc rel hv h=>mc (C:=λcJ=>nX X n cJ vs K st->_) (λi is h1 h2 h=> ?_) hc h;rcases vs with _ | ⟨v,vs⟩
  ·exact h.elim
  ·refine hv.c λy ys jq hV=> ?_;exact aE (cj (weak (CB O EO hE hr h1 rel jq h) λJ s1 p=>by
    obtain ⟨_,aw,ay,r1,e1,_,k1⟩:=p;exact weak (ih h2 r1 (hV.mono e1.bb) k1) λJ J p=>p.trans e1))
omit O in
theorem za{P:Expr->Prop}(a:∀x p,P (.Name x p))(b:∀o x p,P (.Attribute o x p))(d:∀o i p,P (.Subscript o i p)){t:Expr}(h:y9 t=true):P t:=by
 rcases t with ⟨⟩<;>first | exact ff h | exact a _ _ | exact b _ _ _ | exact d _ _ _
omit O in
theorem assign1{A E s}{t v:Expr}{Q:iH->al->Prop}(ht:y9 t=true)(hs:swapsWithSole [t] v pos.line ac=pure false)
  (h:ai X.M A (eval v ac) (λy s1=>ai X.M A (assign t ac y) (λJ=>Q .next) E s1) E s):ai X.M A (exec (.Assign [t] v pos) ac) Q E s :=
 Po (eS h (λy s1 h1=>za (P:=λt=>ai X.M A (assign t ac y) (λJ=>Q .next) E s1->ai X.M A (assignAll y ((assignEach [t] ac).map wd)) (λJ=>Q .next) E s1) (λJ J h=>h) (λJ J J h=>h) (λJ J J h=>h) ht h1) λJ J x=>x) hs
  (za (P:=λt=>swappedStores [t] v ac=pure none) (λJ J=>rfl) (λJ J J=>rfl) (λJ J J=>rfl) ht)
end
section
variable {L:Addr}{ie:IE}{ae:List Loc}
section
variable{X:Cx}{n:Nat}
def C7(X:Cx)(n k:Nat):Prop:=∀L ae ac c,dK X ac L ae c->∀s i,cS k c s=some i->∀K st,wpS X n i K st->dC X n L ae (exec s ac) K st
theorem U3{s:fM}{i:IS}{is:List IS}{K:cn->St->Prop}(hS:∀K st,wpS X n i K st->dC X n L ae (exec s ac) K st)(h:dy X n (i::is) K st):dC X n L ae (exec s ac) (Iy (λst=>dy X n is K st) K) st:=by
 cases is with
 | nil=>exact (hS _ _ h).mono λfl st q=>by cases fl<;>exact q
 | cons j js=>exact (hS _ _ h).mono λfl st q=>by cases fl<;>exact q
theorem Jf{c:CT}(hS:∀s i,cS k c s=some i->∀K st,wpS X n i K st->dC X n L ae (exec s ac) K st){K:cn->St->Prop}{ss:List fM} :
  ∀{is:List IS} {st:St},ss.mapM (cS k c)=some is->dy X n is K st->dC X n L ae (execs ss ac) K st:=by
 induction ss with
 | nil=>exact λ{is st}=>mn (C:=λis=>dy X n is K st->_) Tx
 | cons s ss ih=>exact λ{is st}=>mc (C:=λis=>dy X n is K st->_) λi is h1 h2 h=>Tz ((U3 (hS s i h1) h).mono λfl st q=>by
   rcases fl with _ | _ | _ | _
   ·exact ih h2 q
   ·exact q
   ·exact q
   ·exact q)
noncomputable def isTup:ab->Bool
 | .tuple _=>true
 | _=>false
theorem U4{es:List IE}(h:bC X n (.tuple es) K st):bC X n (.tuple es) (λv st=>isTup v=true/\K v st) st :=
 have e:(λ(vs:List ab) st=>cX (short vs 100) (K (.tuple vs) st))=λvs st=>cX (short vs 100) (isTup (.tuple vs)=true/\K (.tuple vs) st):=funext λvs=>funext λst=>propext ⟨λh=>cX.of h λc k=>cX.i c ⟨rfl,k⟩,λh=>cX.of h λc k=>cX.i c k.2⟩
 (congrArg (λk=>jm X n es k st) e).mp h
theorem U5{P:Expr->Prop}(a:∀cF gens scope p,P (.ListComp cF gens scope p)){v:Expr}(h:qP v=true):P v:=by
 rcases v with ⟨⟩<;>first | exact ff h | exact a _ _ _ _
theorem Jg{c:CT}{v t:Expr}{line:Nat}(h:qP v=false)(hv:cE (k+1) c v=some ie):swapsWithSole [t] v line ac=pure false:=by
 rcases v with ⟨⟩<;>first | rfl | exact ff h.symm | exact nn hv
theorem U6{c:CT}{P:Expr->IE->Prop}(a:∀es m p is,P (.Tuple es m p) (.tuple is)){v:Expr}(q:d9 v.ctorIdx 25=true)(hv:cE (k+1) c v=some ie):P v ie:=by
 rcases v with ⟨⟩<;>first | exact ff q | exact b1 (λis J=>a _ _ _ is) hv
variable(ok:eY X)(O:Ops X n)(Z:m7 X n)
include ok O Z
theorem U7{c:CT}(EO:dK X ac L ae c){t v:Expr}{it:IT}(ht:cT (k+1) c t=some it)(hv:cE (k+1) c v=some ie){K:cn->St->Prop}
  (h:bC X n ie (λv st=>ty X n it v (λst=>K .next st) st) st):dC X n L ae (exec (.Assign [t] v pos) ac) K st:=by
 obtain ⟨hE,hB⟩:=wc ok O Z (k+1)
 have rp:=hE L ae ac c EO
 have oh:swapsWithSole [t] v pos.line ac=pure false->dC X n L ae (exec (.Assign [t] v pos) ac) K st:=λhs A κ s hr rel =>
  assign1 (C6 ht) hs (chain (rp v ie hv _ _ h) hr rel λy s1 av aw ay r1 e1 v1 k1=>weak (CB O EO rp hr ht r1 v1 k1) λJ s2 p=>by obtain ⟨_,ba,bN,r2,e2,_,k2⟩:=p;exact .to r2 (e1.trans e2) .next k2)
 rcases q:qP v with _ | _
 ·exact oh (Jg q hv)
 ·refine U5 (P:=λv=>cE (k+1) c v=some ie->(swapsWithSole [t] v pos.line ac=pure false->dC X n L ae (exec (.Assign [t] v pos) ac) K st)->dC X n L ae (exec (.Assign [t] v pos) ac) K st) (λcF gens scope p hv oh=> ?_) q hv oh;obtain ⟨b,hb⟩:∃b,swapsWithSole [t] (.ListComp cF gens scope p) pos.line ac=pure b:=za (P:=λt=>∃b,swapsWithSole [t] (.ListComp cF gens scope p) pos.line ac=pure b) (λJ J=>⟨_,rfl⟩) (λJ J J=>⟨_,rfl⟩) (λJ J J=>⟨_,rfl⟩) (C6 ht);rcases b with _ | _
  ·exact oh hb
  ·refine Iq (P:=λgens ie=>bC X n ie (λv st=>ty X n it v (λst=>K .next st) st) st->swapsWithSole [t] (.ListComp cF gens scope p) pos.line ac=pure true->dC X n L ae (exec (.Assign [t] (.ListComp cF gens scope p) pos) ac) K st) (λt' C8 ifs gw oi cond tg aO ahk h1 h2 h3 h4 h5 h6 h7 h hb A κ s hr rel=> ?_) hv h hb;refine aa (Pp ..) (aa hb ?_);refine aE (g8 (aE (aY ?_)));refine aa (if_pos rfl) ?_;obtain ⟨U8,U9⟩:=wc ok O Z k;refine aa (show (λv=>assignAll v ((assignEach [t] ac).map wd))=λv=>assign t ac v from za (P:=λt=>(λv=>assignAll v ((assignEach [t] ac).map wd))=λv=>assign t ac v) (λJ J=>rfl) (λJ J J=>rfl) (λJ J J=>rfl) (C6 ht)) (?_:ai _ _ ((comprehension (.ListComp cF [⟨t',C8,ifs,0⟩] scope p) scope ac (firstIterPos [⟨t',C8,ifs,0⟩] p) (newList []) false (eval C8 ac) (some (λv=>assign t ac v))>>=λJ=>pure ())>>=λJ=>pure Jh) _ _ _);exact aE (aE (I7 ok EO Z U8 U9 h1 h2 h3 h4 h5 h6 h7 (Cv (C2 h1)) h (use:=some _) (F:=λJ s'=>ai X.M A (pure ()) (λJ sY=>ai X.M A (pure Jh) _ _ sY) _ s') hr rel ⟨K .next,λv y aw ay s1 r1 v1 k1=>CB O EO rp hr ht r1 v1 k1,λst' κ' s' r e k1=>aY (aY ⟨.next,st',κ',r,e, .next,k1⟩)⟩))
theorem Va{c:CT}(EO:dK X ac L ae c){ts:List Expr}{kk:Nat}{tp:Pos}{v:Expr}{cJ:List IT}(hl:qP v=false)(C9:tc v=false)(ht:ts.mapM (cT (k+1) c)=some cJ)(hv:cE (k+1) c v=some ie){K:cn->St->Prop}
  (h:bC X n ie (λv st=>bB (eV st.σ v) λvs=>cX (ve cJ vs) (nX X n cJ vs (λst=>K .next st) st)) st):dC X n L ae (exec (.Assign [.Tuple ts kk tp] v pos) ac) K st:=by
 obtain ⟨hE,hB⟩:=wc ok O Z (k+1)
 have rp:=hE L ae ac c EO
 have hs:swapsWithSole [.Tuple ts kk tp] v pos.line ac=pure false:=Jg hl hv
 refine o4 (U1 ac ht) λl1 l2 l3=> ?_
 have oh:swappedStores [.Tuple ts kk tp] v ac=pure none->dC X n L ae (exec (.Assign [.Tuple ts kk tp] v pos) ac) K st:=λhw A κ s hr rel=>by
  refine Assign_Tuple (chain (rp v ie hv _ _ h) hr rel λy s1 av aw ay r1 e1 v1 k1=> ?_) hs hw;refine aB (bB.ex k1) λvs md k1=>cX.of k1 λaR k1=> ?_;replace aR:=GP aR;refine aa (Tc ..) (aE (g8 (Ih hr r1 v1 md (l1.trans aR) l2 λs' ys r2 e2 hy=> ?_)));refine aa l3 ?_;exact weak (U2 O EO rp hr ht r2 hy k1) λJ s3 p=>by obtain ⟨_,dS,fo,r3,e3,_,k3⟩:=p;exact .to r3 ((e1.trans e2).trans e3) .next k3
 rcases q:d9 v.ctorIdx 25 with _ | _
 ·exact oh (by rcases v with ⟨⟩<;>first | rfl | exact ff q.symm)
 ·refine U6 (P:=λv ie=>tc v=false->(swappedStores [.Tuple ts kk tp] v ac=pure none->dC X n L ae (exec (.Assign [.Tuple ts kk tp] v pos) ac) K st)->swapsWithSole [.Tuple ts kk tp] v pos.line ac=pure false->cE (k+1) c v=some ie->
   bC X n ie (λv st=>bB (eV st.σ v) λvs=>cX (ve cJ vs) (nX X n cJ vs (λst=>K .next st) st)) st->dC X n L ae (exec (.Assign [.Tuple ts kk tp] v pos) ac) K st) (λes k2 p2 is C9 oh hs hv h=> ?_) q hv C9 oh hs hv h
  rcases UH (ts:=ts) (k:=kk) (p:=tp) (ac:=ac) C9 with hw | ⟨names,line,hw,tG,hn,hf,hd⟩
  ·exact oh hw
  ·intro A κ s hr rel;refine Assign_Tuple_swapped (names:=names) (chain (rp _ _ hv _ _ (U4 h)) hr rel λy s1 av aw ay r1 e1 v1 k1=> ?_) hs hw;obtain ⟨tL,k0⟩:=k1;refine aB (bB.ex k0) λvs md k0=>cX.of k0 λaR k2=> ?_;clear k0;replace aR:=GP aR;rcases av with ⟨⟩<;>first | exact ff tL | skip
   cases aM md;refine eK (v1.inv) λt items bL u tL aL=> ?_;subst bL;refine aa (show names.length=items.toArray.size by rw [hf,fE,<-aL.length,<-aR,Ux ht]) (unpackItems_tuple hr.handled tL λh' he=> ?_)
   have hx:∀b o,s1.heap.get? b=some o->h'.get? b=some o:=λb o g=>he b o (dz (cR g)) g
   exact weak (UZ EO hn hf hd ht (r1.ext (s':={s1 with heap:=h'}) hx rfl rfl) (aL.mono (gI hx)) k2) λJ s3 p=>by obtain ⟨_,dS,fo,r3,e3,_,k3⟩:=p;exact .to r3 ((e1.trans (.ext hx)).trans e3) .next k3
end
end
section
variable{X:Cx}{n:Nat}
theorem Vb{c:CT}{P:fM->IS->Prop}(expr:∀f as ks p q ie,cE (k+1) c (.Call f as ks p)=some ie->P (.Expr (.Call f as ks p) q) (.expr ie))
  (dY:∀ts m tp v p cJ ie,qP v=false->tc v=false->ts.mapM (cT (k+1) c)=some cJ->cE (k+1) c v=some ie->P (.Assign [.Tuple ts m tp] v p) (.dY cJ ie))
  (assign:∀t v p it ie,cT (k+1) c t=some it->cE (k+1) c v=some ie->P (.Assign [t] v p) (.s it ie))
  (aug:∀o i q op v p io ii iv,cE (k+1) c o=some io->cE (k+1) c i=some ii->cE (k+1) c v=some iv->P (.AugAssign (.Subscript o i q) op v p) (.aug io ii op iv))
  (loop:∀t it body p tg aO ii ib,kU c t=some (tg,aO)->cI (k+1) c it=some ii->nO ii aO=true->body.mapM (cS k c)=some ib->P (.For t it body [] p) (.loop tg aO ii ib))
  (jh:∀t body p ib is,cB (k+1) c t=some ib->body.mapM (cS k c)=some is->P (.While t body [] p) (.jh ib is)) (ifs:∀t a b p it ia ib,cB (k+1) c t=some it->a.mapM (cS k c)=some ia->b.mapM (cS k c)=some ib->P (.If t a b p) (.ifs it ia ib))
  (Vc:∀p,P (.Return none p) (.ret none)) (ret:∀e p ie,cE (k+1) c e=some ie->P (.Return (some e) p) (.ret (some ie))) (fail:∀a b p,P (.Raise a b p) .fail) (pass:∀p,P (.Pass p) .pass) {s:fM} {i:IS} (h:cS (k+1) c s=some i):P s i:=by
 rcases s with ⟨⟩<;>first | exact nn h | exact b3 (ifs _ _ _ _) h | exact aM h▸fail _ _ _ | exact aM h▸pass _ | skip
 ·rcases value with _ | e
  ·exact aM h▸Vc _
  ·exact eM (ret _ _) h
 ·rcases targets with _ | ⟨t,_ | _⟩<;>first | exact nn h | (rcases t with ⟨⟩<;>first | exact nn h | exact b2 (assign _ _ _) h | skip)
  by_cases q:(qP value || tc value)=true
  ·exact nn ((if_pos q).symm.trans h)
  ·have q:=vx.mp (Vd _▸q)
   exact b2 (λz b9=>dY _ _ _ _ _ z b9 q.1 q.2) ((if_neg (by refine aH q.1 q.2 ?_;exact ff)).symm.trans h)
 ·rcases target with ⟨⟩<;>first | exact nn h | exact b3 (aug _ _ _ _ _ _) h
 ·rcases orelse with _ | _<;>first | exact nn h | skip
  obtain ⟨⟨tg,aO⟩,h1,h⟩:=cQ.mp h;obtain ⟨ii,h2,h⟩:=cQ.mp h;obtain ⟨q,h⟩:=mV h;exact b1 (λib h3=>loop _ _ _ _ _ _ _ ib h1 h2 q h3) h
 ·rcases orelse with _ | _<;>first | exact nn h | exact b2 (jh _ _ _) h
 ·rcases value with ⟨⟩<;>first | exact nn h | exact eM (expr _ _ _ _ _) h
theorem Ve{i:Expr}(h:pI i=true):∀ov iv new:Value,augStore i ov iv new=(holding [new,ov,iv] (setItem ov iv new)>>=λJ=>release [new,ov,iv] []>>=λJ=>pure Jh):=by rcases i with ⟨⟩<;>first | exact λJ J J=>rfl | exact ff h
theorem Vf(O:Ops X n){L:Addr}{ae:List Loc}{c:CT}(E:SE X n L ae ac c k){o i v:Expr}{q:Pos}{op:o8}{io ii iv:IE}(h1:cE k c o=some io)(h2:cE k c i=some ii)(h3:cE k c v=some iv){K:cn->St->Prop}(h:wpS X n (.aug io ii op iv) K st) :
  dC X n L ae (exec (.AugAssign (.Subscript o i q) op v pos) ac) K st:=λA κ s hr rel=>by
 refine Pq (chain (E _ io h1 _ _ h) hr rel λy1 s1 ov aw ay r1 e1 v1 k1=>chain (E _ ii h2 _ _ k1) hr r1 λy2 s2 ahl ba bN r2 e2 v2 k2=> ?_) (Ve (pJ h2));refine weak (O.get k2 r2 (v1.mono e2.bb) v2 A hr) λy3 s3 p=> ?_;obtain ⟨old,dS,fo,r3,e3,v3,k3⟩:=p;refine chain (E _ iv h3 _ _ k3) hr r3 λy4 s4 w qY mU r4 e4 v4 k4=>weak (O.HC k4 r4 (v3.mono e4.bb) v4 A hr) λy5 s5 p=> ?_;obtain ⟨new,B5,tA,r5,e5,v5,k5⟩:=p
 have Da:=(e3.trans e4).trans e5
 refine weak (O.B3 (K:=λJ=>K .next) k5 r5 (v1.mono (e2.trans Da).bb) (v2.mono Da.bb) v5 A hr) λJ s6 p=> ?_;obtain ⟨_,vM,pM,r6,e6,_,k6⟩:=p;exact .to r6 (((e1.trans e2).trans Da).trans e6) .next k6
theorem Vg(ok:eY X)(O:Ops X n)(Z:m7 X n)(hS:C7 X n k):C7 X n (k+1):=λL ae ac c EO s i hc =>
 have E:=(wc ok O Z (k+1)).1 L ae ac c EO
 have B:=(wc ok O Z (k+1)).2 L ae ac c EO
 have S:=λ{ss:List fM} {is:List IS} {K:cn->St->Prop} {st:St}=>Jf (hS L ae ac c EO) (ss:=ss) (is:=is) (K:=K) (st:=st)
 Vb (P:=λs i=>∀K st,wpS X n i K st->dC X n L ae (exec s ac) K st) (λf as ks p q ie h1 K st h=>TF EO (E _ ie h1 _ _ h)) (λts m tp v p cJ ie g1 g2 h1 h2 K st h=>Va ok O Z EO g1 g2 h1 h2 h) (λt v p it ie h1 h2 K st h=>U7 ok O Z EO h1 h2 h)
  (λo i q op v p io ii iv h1 h2 h3 K st h=>Vf O E h1 h2 h3 h) (λt it body p tg aO ii ib h1 h2 q h3 K st h=>Tw ok EO Z E h2 h1 q (λK st hw=>S h3 hw) (Cv (C2 h2)) h)
  (λt body p ib is h1 h2 K st h=>TC (h.mono λKb Ke st h=>(B t ib h1 _ _ h).mono λb st q=>bf.mono q (S h2) id)) (λt a b p it ia ib h1 h2 h3 K st h=>TB ((B t it h1 _ _ h).mono λc st q=>bf.mono q (S h2) (S h3)))
  (λp K st h=>TD h) (λe p ie h1 K st h=>TE (E e ie h1 _ _ h)) (λJ J J J J h=>h.elim) (λp K st h=>TA h) hc
theorem Vh(ok:eY X)(O:Ops X n)(Z:m7 X n)(k:Nat):C7 X n k:=k.rec (λJ J J J J J J h=>nn h) λJ h=>Vg ok O Z h
end
section
variable {lam:Bool}
section
variable{X:Cx}{n:Nat}{L:Addr}{ae:List Loc}{ac:Env}{c:CT}
theorem Vi(EO:dK X ac L ae c){f:Str×Value->PUnit->Sem (ForInStep PUnit)}(hf:∀n v u,f (n,v) u=(do storeName ac n v;pure (.yield ⟨⟩))){A}{Q:PUnit->al->Prop} :
  ∀{is:List Nat} {vs:List ab} {ys:List Value} {st:St} {K:St->Prop} {κ s},names.map (jO c)=is.map some->Rel X L ae st κ s->aN (aj st.σ κ) s.heap vs ys->gh is vs st K->
   (∀st' κ' s',Rel X L ae st' κ' s'->be (λz=>z =L) st.σ κ s.heap st'.σ κ' s'.heap->K st'->Q ⟨⟩ s')->ai X.M A (forIn (names.zip ys) ⟨⟩ f) Q (λJ J=>False) s:=by
 induction names with
 | nil =>
  intro is vs ys st K κ s hc rel hv h hq;rcases is with _ | _
  ·rcases vs with _ | _
   ·refine aa List.zip_nil_left (aa Ji ?_);exact aY (hq st κ s rel .refl h)
   ·exact h.elim
  ·cases hc
 | cons x names ih =>
  intro is vs ys st K κ s hc rel hv h hq;rcases is with _ | ⟨i,is⟩
  ·cases hc
  rcases vs with _ | ⟨v,vs⟩
  ·exact h.elim
  obtain ⟨q6,Vj⟩:=tO hc;refine eR (hv.cons_inv) λy zs bL jq hV=> ?_;subst bL;refine aa tP (aa (pd ..) (aa (hf ..) ?_));refine aE (aE (weak (Ch EO q6 rel jq h) ?_))
  rintro _ s1 ⟨_,aw,ay,r1,e1,_,k1⟩
  exact aY (ih Vj r1 (hV.mono e1.bb) k1 λst' κ' s' r e k=>hq st' κ' s' r (e1.trans e) k)
theorem Vk(pre:List α)(x y:α)(r:List α):(pre++x::r).set pre.length y=pre++y::r:=by
 induction pre with
 | nil=>rfl
 | cons a p ih=>exact congrArg (λz=>a:: z) ih
theorem Vl{x:α}{r:List α}(l:List α):vd l.length (l++x::r)=true:=l.rec rfl λJ J e=>e
theorem Vm{K:St->Prop}(q:Nat)(vs:List ab):∀(n:Nat) (pre:List (Option ab)),pre.length=n->K {m:=pre++(vs.map some++cf q none),fz:= [],σ:=σ}->
  gh (gZ n vs.length) vs {m:=pre++cf (q+vs.length) none,fz:= [],σ:=σ} K:=by
 induction vs with
 | nil=>exact λJ J J h=>h
 | cons v vs ih =>
  intro n pre e h;subst e;refine cX.i (Vl pre) (?_:gh _ vs {m:=(pre++cf (q+vs.length+1) none).set pre.length (some v),fz:= [],σ:=σ} K);refine aa List.replicate_succ (aa (Vk ..) (aa (List.append_cons ..) ?_));exact ih (pre.length+1) (pre++ [some v]) de (aa (lb ..) h)
structure pS(X:Cx)(a:Addr)(f:Fn)(fd:FuncData)(lam:Bool):Prop where
 obj:∃o,X.h₀.get? a=some o/\o.data= .func fd
 Vn:X.h₀.CodeRec fd.code fd.qualname
 c:va 20 lam lZ fd=some f
 tab:lam=true->∃co P,fd.code= .ref co/\CodeHd X.h₀ co P/\(co,P,fd.qualname++ ".<locals>." ++ "<lambda>")∈X.tabs
structure zb(fd:FuncData):Prop where
 kind:fd.scope.kind= .function
 nd:jP fd.scope.names=true
 gen:fd.scope.isGenerator=false
 co:fd.scope.isCoroutine=false
 bad:∀a∈fd.params.args,gJ a.arg=false
 pos:fd.params.posonlyargs= []
 var:fd.params.vararg=none
 Vo:fd.params.kwonlyargs= []
 kw:fd.params.kwarg=none
 cl:fd.closure= []
 gl:fd.globals=mainGlobals
 bu:fd.builtins=builtinsNs
theorem Vp(h:BB fd=true):zb fd:=by
 simp only [BB,q9,beq_iff_eq,yO,l0,fx,Cs] at h
 obtain ⟨⟨⟨⟨⟨⟨⟨⟨⟨⟨⟨⟨hk,hn⟩,_⟩,g⟩,c⟩,b⟩,p⟩,v⟩,ko⟩,kw⟩,hcl⟩,zc⟩,Vq⟩:=h;exact ⟨hk,hn,g,c,b,p,v,ko,kw,hcl,zc,Vq⟩
inductive Jj(lam:Bool)(G:List (Str×ab))(fd:FuncData):Fn->Prop
 | mk (body ib):fd.body= .stmts body->zb fd->(fd.params.args.map λx=>(dq fd.scope.names 0).lookup x.arg)=(aK fd.params.args.length).map some->body.mapM (cS 20 (td lam G fd))=some ib->Jj lam G fd ⟨fd.params.args.length,(dq fd.scope.names 0).length,ib⟩
theorem Jk{G:List (Str×ab)}{f:Fn}(h:va 20 lam G fd=some f):Jj lam G fd f:=by
 unfold va at h
 generalize hb:fd.body=b at h
 rcases b with ⟨⟩<;>first | exact nn h | skip
 refine dP (mV h) λhq h=>aB (lQ.mp h) λib h1 bL=> ?_;subst bL;obtain ⟨a,b⟩:=bR.mp hq;exact .mk _ ib hb (Vp a) (beq_iff_eq.mp b) h1
noncomputable def Vr(fd:FuncData)(L a:Addr):Env:=newEnv fd.scope L fd.globals (cellsFrom (L+1) fd.scope.names fd.closure) (fd.qualname++ ".<locals>.") (some a) fd.code none fd.builtins
theorem Vs(ns:List (Str×ce)):∀n:Nat,(x,a)∈cellsFrom n ns []->n≤a:=by
 induction ns with
 | nil=>exact λJ h=>by cases h
 | cons p r ih =>
  intro n h;unfold cellsFrom at h
  by_cases q:(p.2== .cell)=true
  ·rw [if_pos q,tK] at h
   rcases jg.mp h with h | h
   ·exact ig (ih _ h)
   ·cases dL.mp h;exact cb _
  ·rw [if_neg q] at h;exact ih _ h
theorem Vt{f:Fn}(hg:yC X lZ)(D:pS X a f fd lam)(F:zb fd)(L:Addr):dK X (Vr fd L a) L (fb L (cellsFrom (L+1) fd.scope.names fd.closure) fd.scope.names) (td lam lZ fd):=by
 refine {kind:=F.kind,locals:=rfl,globals:=F.gl,builtins:=F.bu,n:=(vN _ _).symm,G:=hg,glob:=λx h=>h,tab:=λh=> ?_,kinds:=λx k h=> .inl h,idx:=λx i hb d3 hi=> ?_}
 ·refine eR (D.tab h) λco P h1 h2 h3=>⟨λl hl=> ?_,co,P,h1,h2,h3⟩;obtain ⟨x,k,hx,⟨rfl,rfl⟩ | ⟨rfl,rfl⟩⟩:=CE hl
  ·exact cb _
  ·obtain ⟨b,hb⟩:=yV fd.scope.names (L+1) hx;refine aa F.cl (aa hb ?_);exact ig (Vs fd.scope.names (L+1) (mem_of_lookup hb))
 ·obtain ⟨_,k,hm,l,h,ho⟩:=CC (C:=L) (cells:=cellsFrom (L+1) fd.scope.names fd.closure) _ _ hi
  have l9:=n9 F.nd hm
  refine ⟨l,h, ?_⟩;rcases ho with ⟨rfl,rfl⟩ | ⟨rfl,rfl⟩
  ·exact .inl ⟨l9,rfl⟩
  ·obtain ⟨b,hb⟩:=yV fd.scope.names (L+1) hm;rw [<-F.cl] at hb
   exact .inr ⟨.inl l9,b,hb,aa hb rfl⟩
def pT(X:Cx)(fd:FuncData)(args:List ab)(dD:List (Str×ab))(pU:List ab):Prop :=
 ∀A E (Q:List (Str×Value)->al->Prop) σ κ s ys dE,bk X σ κ s->aN (aj σ κ) s.heap args ys->aN (aj σ κ) s.heap (dD.map (λz=>z.2)) dE->
  (∀zs,aN (aj σ κ) s.heap pU zs->Q ((fd.params.args.map (λz=>z.arg)).zip zs) s)->ai X.M A (bindArgs fd ⟨ys,(dD.map (λz=>z.1)).zip dE⟩) Q E s
theorem cG.deeper{e:Env}(r:cG (n+1) A):cG n (A.deeper e):=⟨r.handled,by have:=r.depth;show A.depth+1+_≤_;exact xX this (nb rfl),by have:=r.units;show A.units+3+_≤_;exact xX this (nb rfl)⟩
theorem Jl(iT:(fd.params.args.map λx=>(dq fd.scope.names 0).lookup x.arg)=(aK fd.params.args.length).map some){x i}(e:(dq fd.scope.names 0).lookup x=some i):i<(dq fd.scope.names 0).length/\∃k,(x,k)∈fd.scope.names/\isVar (some k)=true:=by
 obtain ⟨_,k,hm,l,h,ho⟩:=CC (C:=0) (cells:= []) _ _ e;refine ⟨ao (vN (C:=0) (cells:= []) fd.scope.names 0) ((dr.mp h).1),k,hm, ?_⟩;rcases ho with ⟨rfl,_⟩ | ⟨rfl,_⟩<;>rfl
theorem Vu(iT:(fd.params.args.map λx=>(dq fd.scope.names 0).lookup x.arg)=(aK fd.params.args.length).map some):fd.params.args.length≤(dq fd.scope.names 0).length:=by
 rcases q:fd.params.args.length with _ | m
 ·exact da _
 ·have e:=congrArg (λz=>z[m]?) iT
  rw [cW,cW,zd (q▸jr m)] at e
  exact aB (lQ.mp e) λp hp e=>(Jl iT e).1
theorem Vv(F:zb fd)(iT:(fd.params.args.map λx=>(dq fd.scope.names 0).lookup x.arg)=(aK fd.params.args.length).map some):(fd.params.args.map (λz=>z.arg)).map (jO (td lam lZ fd))=(gZ 0 fd.params.args.length).map some:=by
 refine ao Jm (ao iT (aa dj ?_));refine fV λp hp=> ?_
 have hm:(dq fd.scope.names 0).lookup p.arg∈(aK fd.params.args.length).map some:=ao iT (bF.mpr ⟨p,hp,rfl⟩)
 refine aB (bF.mp hm) λi J e=> ?_;obtain ⟨_,k,hm,hv⟩:=Jl iT e.symm;refine if_pos (bR.mpr ⟨(l0 _).mpr (F.bad p hp), ?_⟩);exact aa (show (td lam lZ fd).names.lookup p.arg=some k from n9 F.nd hm) hv
theorem Db(ok:eY X)(O:Ops X n)(Z:m7 X n)(hg:yC X lZ){f:Fn}(D:pS X a f fd lam){args pU:List ab}{dD:List (Str×ab)}(hb:pT X fd args dD pU){K:ab->aq->Prop}(aR:pU.length=f.params)
  (h:dy X n f.body (λfl st=>match fl with | .ret v=>K v st.σ | .next=>K .none st.σ | _=>False) {m:=pU.map some++cf (f.ae - f.params) none,fz:= [],σ:=σ}):az X (n+1) (.ref a) args dD K σ:=by
 refine ⟨λA κ s y ys dE hr G hy hv Dc=> ?_⟩;cases hy.bQ;refine aB (D.obj) λo ho hd=> ?_
 have rq:=G.keep _ _ ho
 refine ⟨⟨.frame,λA' Q E q=> ?_⟩, ?_⟩
 ·unfold keeperOf;exact fB (λq=>u0 rq q) (aa hd (aY q))
 obtain ⟨body,ib,pf,F,iT,Jn⟩:=Jk D.c
 have EO:=Vt hg D F s.heap.objs.size
 refine o7 (x7 (R:=λr s'=>∃v σ' κ' z,r= .ok (.ret z)/\bk X σ' κ' s'/\be (λJ=>False) σ κ s.heap σ' κ' s'.heap/\am (aj σ' κ') s'.heap v z/\K v σ') ?_ λr s' ⟨v,σ',κ',z,e,q1,q2,q3,q4⟩=>by subst e;exact ⟨v,σ',κ',q1,q2,q3,q4⟩);refine Pw hr.lt rq hd F.co F.gen pf (Ga D.Vn λc oc vs t e g r=>⟨c,oc,vs,t,e,G.keep _ _ g,r⟩) (hb A.in1 _ _ σ κ s ys dE G hv Dc λzs Vw=> ?_);refine noRaise ?_;simp only [newFunctionEnv,S5,Ck,if_false];refine fB (λq=>GF q) (fB (λq=>GC _ (λname kind cells=>by cases CM:kind==l8<;>simp [CM]) _ _ _ _ q) ?_);refine aa (show ({s with heap:=s.heap.push {cls:= .type "frame",data:= .dict #[]}}:al).heap.objs.size=s.heap.objs.size+1 from oa ..) (qE (IL G pN.nil fd.scope.names F.nd fd.closure (.type "frame") (λx J=>aa F.cl rfl) rfl rfl) λay G1 e1 F1 CF=> ?_);generalize IM:({s with heap:=pushCells (s.heap.push {cls:= .type "frame",data:= .dict #[]}) fd.scope.names}:al)=s1 at *
 generalize CJ:fb s.heap.objs.size (cellsFrom (s.heap.objs.size+1) fd.scope.names fd.closure) fd.scope.names=locs at *
 have tQ:locs.length=(dq fd.scope.names 0).length:=ao CJ (vN _ _)
 refine aE ?_
 have bZ:=Vm (K:=λst=>st={m:=pU.map some++cf ((dq fd.scope.names 0).length - fd.params.args.length) none,fz:= [],σ:=σ}) (σ:=σ) ((dq fd.scope.names 0).length - fd.params.args.length) pU 0 [] rfl rfl
 rw [(show pU.length=fd.params.args.length from aR),CW,vQ (Vu iT),<-tQ] at bZ
 refine Vi (c:=td lam lZ fd) EO (λJ J J=>rfl) (Vv F iT) (show Rel X s.heap.objs.size locs {m:=cf locs.length none,fz:= [],σ:=σ} ay s1 from ⟨G1,F1⟩) (Vw.mono e1.bb) bZ λba bN s2 r2 e2 k2=>aY ?_;subst k2;refine ⟨ok.nolimit.keeps r2.g.keep,Pv (noRaise ?_)⟩;refine weak (Jf (Vh ok O Z 20 _ _ _ _ EO) Jn (tQ▸h) _ bN s2 hr.deeper r2) ?_
 rintro fl s3 ⟨Ix,dS,fo,r3,e3,v3,k3⟩
 have ev:be (λJ=>False) σ κ s.heap dS.σ fo s3.heap:=((qZ e1).trans (e2.trans e3)).fresh G λL' q=> .inr (aa q (Cr _))
 rcases v3 with ⟨⟩
 ·exact ⟨_,_,fo,_,rfl,r3.g,ev, .raw _,k3⟩
 all_goals first | exact k3.elim | (exact ⟨_,_,fo,_,rfl,r3.g,ev,by assumption,k3⟩)
end
end
section
variable {kw:List (Str×Value)}
theorem Jo{f g:α->Option β}(h:∀x∈l,f x=g x):l.filterMap f=l.filterMap g:=by
 induction l with
 | nil=>rfl
 | cons a l ih =>
  have e:=h a (.head _)
  have ih:=ih λx hx=>h x (.tail _ hx)
  rcases q:g a with _ | b
  ·exact aH (C3 (e.trans q)) (C3 q) (aa ih rfl)
  ·exact aH (y8 (e.trans q)) (y8 q) (congrArg _ ih)
theorem Jp{a:Str}{r:List (Str×Value)}:((a,y)::r).lookup a=some y:=aa kZ (aa (beq_self_eq_true ..) rfl)
theorem Jq{a:Str}{r:List (Str×Value)}(h:x≠a):((a,y)::r).lookup x=r.lookup x:=aa kZ (aa (beq_eq_false_iff_ne.mpr h) rfl)
theorem Vx:∀{ys:List Value},names.length=ys.length->∀x∈names,∃y,(names.zip ys).lookup x=some y:=by
 induction names with
 | nil=>exact λJ J h=>absurd h dJ
 | cons a names ih =>
  intro ys hl x h;rcases ys with _ | ⟨y,ys⟩
  ·cases hl
  by_cases e:x=a
  ·exact ⟨y,ao e Jp⟩
  ·refine aa tP (aa (Jq e) ?_);exact ih (qU hl) x ((bq.mp h).resolve_left e)
theorem Vy:∀{ys:List Value},names.Nodup->names.length=ys.length->(names.filterMap λn=>((names.zip ys).lookup n).map (λz=>(n,z)))=names.zip ys:=by
 induction names with
 | nil=>exact λJ J=>rfl
 | cons a names ih =>
  intro ys hn hl;rcases ys with _ | ⟨y,ys⟩
  ·cases hl
  have vT:=fW.mp hn
  refine aa tP (aa (y8 (b:=(a,y)) (by rw [Jp];rfl)) ?_);exact congrArg (λz=>(a,y):: z) ((Jo λx hx=>by exact congrArg _ (Jq λ(e:x=a)=>vT.1 (ao e hx))).trans (ih vT.2 (qU hl)))
noncomputable def Jr(l sl:List (Str×Value)):List (Str×Value):=l.foldl (λsl x=>if (sl.lookup x.1).isNone=true then sl++ [(x.1,x.2)] else sl) sl
noncomputable def kwOk(names:List Str)(sl kw:List (Str×Value)):Bool:=(kw.foldl (λ(a:Bool×List (Str×Value)) x=>(a.1&&(names.contains x.1&& !(a.2.lookup x.1).isSome),a.2++ [x])) (true,sl)).1
theorem Vz:∀{sl},(kw.foldl (λ(a:Bool×List (Str×Value)) x=>(a.1&&(names.contains x.1&& !(a.2.lookup x.1).isSome),a.2++ [x])) (false,sl)).1=false:=by
 induction kw with
 | nil=>exact rfl
 | cons x kw ih=>exact ih
theorem VA{f:Str×Value->List (Str×Value)×List (Str×Value)->Sem (ForInStep (List (Str×Value)×List (Str×Value)))}(turn:∀k v sl,names.contains k=true->(sl.lookup k).isSome=false->f (k,v) (sl,[])=pure (.yield (sl++ [(k,v)],[]))) :
  ∀{sl:List (Str×Value)},kwOk names sl kw=true->forIn kw (sl,[]) f=pure (sl++kw,[]):=by
 induction kw with
 | nil=>exact λ{sl} _=>aa (iU ..) rfl
 | cons x kw ih =>
  intro sl h
  have g:(names.contains x.1&& !(sl.lookup x.1).isSome)=true:=by
   rcases q:(names.contains x.1&& !(sl.lookup x.1).isSome) with _ | _
   ·have h:(kw.foldl (λ(a:Bool×List (Str×Value)) x=>(a.1&&(names.contains x.1&& !(a.2.lookup x.1).isSome),a.2++ [x])) (true&&(names.contains x.1&& !(sl.lookup x.1).isSome),sl++ [x])).1=true:=h
    rw [q] at h
    exact (ka (Vz.symm.trans h)).elim
   ·rfl
  have h':kwOk names (sl++ [x]) kw=true:=by
   have h:(kw.foldl (λ(a:Bool×List (Str×Value)) x=>(a.1&&(names.contains x.1&& !(a.2.lookup x.1).isSome),a.2++ [x])) (true&&(names.contains x.1&& !(sl.lookup x.1).isSome),sl++ [x])).1=true:=h
   rw [g] at h
   exact h
  have g:=bR.mp g
  refine aa (pd ..) (aa (turn x.1 x.2 sl g.1 ((l0 _).mp g.2)) ?_);exact (ih h').trans (congrArg (λl=>pure (l,[])) (lb sl [x] kw))
theorem VB{f:Str×Value->List (Str×Value)->Sem (ForInStep (List (Str×Value)))}(turn:∀x sl,f x sl=pure (.yield (if (sl.lookup x.1).isNone=true then sl++ [(x.1,x.2)] else sl))){l:List (Str×Value)}:∀{sl},forIn l sl f=pure (Jr l sl):=by
 induction l with
 | nil=>exact rfl
 | cons x l ih =>
  intro sl;refine aa (pd ..) (aa (turn x sl) ?_);exact ih
theorem Js{M:Model}{c:Bool}{a b:Sem α}{Q:α->al->Prop}(hc:c=false)(h:ai M A b Q E s):ai M A (if c=true then a else b) Q E s:=by subst hc;exact h
theorem rt{M:Model}{m:Sem α}{a:α}{f:α->Sem β}{Q:β->al->Prop}(h:m=pure a)(k:ai M A (f a) Q E s):ai M A (m>>=f) Q E s:=by subst h;exact k
theorem VC{c:Bool}{a b:α}(hc:c=true):(if c=true then a else b)=a:=if_pos hc
theorem VD{c:Bool}{a b:α}(hc:c=false):(if c=true then a else b)=b:=if_neg (hc▸ka)
theorem VE{x:Str×Value}{sl:List (Str×Value)}:(if (sl.lookup x.1).isNone=true then pure (ForInStep.yield (sl++ [(x.1,x.2)])) else pure (.yield sl):Sem (ForInStep (List (Str×Value))))=pure (.yield (if (sl.lookup x.1).isNone=true then sl++ [(x.1,x.2)] else sl)):=by
 rcases (sl.lookup x.1).isNone with _ | _<;>rfl
theorem VF{γ δ ε:Type}(f:α->β->γ->δ->ε){a a':α}{b b':β}{c c':γ}{d d':δ}(h1:a=a')(h2:b=b')(h3:c=c')(h4:d=d'):f a b c d=f a' b' c' d':=aH h1 h2 (aH h3 h4 rfl)
theorem VG{p:sW}(h1:p.posonlyargs= [])(h2:p.vararg=none)(h3:p.kwonlyargs= [])(h4:p.kwarg=none):p=⟨[],p.args,none,[],p.kw_defaults,none,p.defaults⟩:=by
 rcases p with ⟨x,y,z,u,v,w,t⟩
 exact VF (λa b c d=>ahm a y b c v d t) h1 h2 h3 h4
theorem Dd{M:Model}{r:Option (Array Value)}{Q:List (Str×Value)->al->Prop}{ds:List Value}{res:List (Str×Value)}
 (h1:fd.params.posonlyargs= []) (h2:fd.params.vararg=none) (h3:fd.params.kwonlyargs= []) (h4:fd.params.kwarg=none) (hn:fd.params.args.map (λz=>z.arg)=names)
 (hd:∀{f:Option (Array Value)->Sem (List (Str×Value))},ai M A (f r) Q E s->ai M A (seqItems? fd.defaults>>=f) Q E s) (De:(r.getD #[]).toList.drop ((r.getD #[]).toList.length - names.length)=ds) (hk:kwOk names (names.zip ys) kw=true) (hl:decide (ys.length>names.length)=false)
 (hm:(names.take (names.length - ds.length)).filter (λn=>((names.zip ys++kw).lookup n).isNone)= []) (hr:(names.filterMap λn=>((Jr ((names.drop (names.length - ds.length)).zip ds) (names.zip ys++kw)).lookup n).map (λz=>(n,z)))=res) (q:Q res s):ai M A (bindArgs fd ⟨ys,kw⟩) Q E s:=by
 subst hn De;refine (congrArg (λp=>ai M A (bindArgs {fd with params:=p} ⟨ys,kw⟩) Q E s) (VG h1 h2 h3 h4)).mpr (rt (VA (λk v sl c l=>(VC (congrArg (λz=>z || _) c)).trans (VD l)) hk) ?_);refine hd (Js (congrArg (λz=>z &&_) hl) ?_);exact Js (congrArg (λl:List Str=> !l.isEmpty) hm) (rt (VB λx sl=>VE) (aY ((congrArg (λz=>Q z s) ((congrArg (List.filterMap _) (iU _)).trans hr)).mpr q)))
theorem Jt{M:Model}{Q:List (Str×Value)->al->Prop}(h1:fd.params.posonlyargs= [])(h2:fd.params.vararg=none)(h3:fd.params.kwonlyargs= [])(h4:fd.params.kwarg=none)(hd:fd.defaults= .none)(hn:(fd.params.args.map (λz=>z.arg)).Nodup)(hl:fd.params.args.length=ys.length)
  (q:Q ((fd.params.args.map (λz=>z.arg)).zip ys) s):ai M A (bindArgs fd ⟨ys,[]⟩) Q E s:=by
 have hl:(fd.params.args.map (λz=>z.arg)).length=ys.length:=(aC _).trans hl
 refine Dd (r:=none) (ds:= []) h1 h2 h3 h4 rfl (λh=>aa hd h) List.drop_nil rfl (decide_eq_false (ao hl (iL _))) ?_ ?_ q
 ·exact aa (iU ..) (List.filter_eq_nil_iff.mpr λx hx=>(Vx hl x (pg hx)).elim λy hy=>aa hy ka)
 ·exact aH (iU ..) VH (Vy hn hl)
theorem VI{X:Cx}{lam:Bool}{G:List (Str×ab)}{f:Fn}(hc:va 20 lam G fd=some f)(hd:fd.defaults= .none){args:List ab}(hl:args.length=f.params):pT X fd args [] args:=by
 obtain ⟨body,ib,pf,F,iT,Jn⟩:=Jk hc
 have hl:args.length=fd.params.args.length:=hl
 have d4:(fd.params.args.map (λz=>z.arg)).Nodup:=by
  have a:((fd.params.args.map (λz=>z.arg)).map λx=>(dq fd.scope.names 0).lookup x).Pairwise (λz b9=>z ≠ b9):=by
   refine aa dj (?_:(fd.params.args.map λx=>(dq fd.scope.names 0).lookup x.arg).Pairwise (λz b9=>z ≠ b9));refine aa iT ?_;rewrite [we];exact ahn (λh q=>h (aM q)) Df
  rw [we] at a
  exact a.imp λh q=>h (by exact aa q rfl)
 intro A E Q σ κ s ys dE G hv hk q;refine aa hk.nil_inv (?_:ai _ _ (bindArgs fd ⟨ys,[]⟩) _ _ _);exact Jt F.pos F.var F.Vo F.kw hd d4 (hl.symm.trans hv.length) (q ys hv)
end
theorem VJ{a b c:Nat}(h:a / 2=b / 2+c / 2)(m:a % 2=b % 2+c % 2):a=b+c:=by
 exact ao (Bf a 2) (aa h (aa m (aa (ze ..) (aa (Nat.add_add_add_comm ..) (aa (Bf ..) (aa (Bf ..) rfl))))))
theorem VK(x y:Nat):(x % 2) ||| (y % 2)=((x % 2) ^^^ (y % 2))+((x % 2) &&& (y % 2)):=by
 rcases VL x with h | h<;>rcases VL y with h' | h'<;>(refine aH h h' ?_)<;>rfl
theorem VM(x:Nat):∀y,x ||| y=(x ^^^ y)+(x &&& y):=by
 induction x using O3 with
 | ind x ih =>
  intro y
  by_cases h0:x=0
  ·subst h0;exact aH (Nat.zero_or ..) (tR ..) (aa (Nat.zero_and ..) (aa (Nat.add_zero ..) rfl))
  refine VJ ?_ ?_
  ·refine aH Nat.or_div_two Nat.xor_div_two (aa Nat.and_div_two ?_);exact ih (x / 2) (Nat.div_lt_self (VN h0) (nb rfl)) (y / 2)
  ·exact (Nat.or_mod_two_pow (n:=1)).trans ((VK x y).trans (congr (congrArg HAdd.hAdd (Nat.xor_mod_two_pow (n:=1)).symm) (Nat.and_mod_two_pow (n:=1)).symm))
theorem Ju{x y:Int}(hx:0≤x)(hy:0≤y):Jv x y=((x.toNat &&& y.toNat:Nat):Int):=by
 unfold Jv;exact aH (decide_eq_true hx) (decide_eq_true hy) rfl
theorem VO{x y:Int}(hx:0≤x)(hy:0≤y):VP x y=((x.toNat ^^^ y.toNat:Nat):Int):=by
 unfold VP;refine aa (Ju hx hy) ?_
 have:VQ x y=((x.toNat ||| y.toNat:Nat):Int):=by
  unfold VQ Jv;refine aa (decide_eq_false (by unfold zg;exact Gk hx)) (aa (decide_eq_false (by unfold zg;exact Gk hy)) ?_)
  have e:∀z:Int,zg (zg z)=z:=λz=>by unfold zg;exact aa (Int.neg_sub ..) (aa (Int.sub_neg ..) (aa (vI ..) (Jw ..)))
  simp only [e]
 exact aa this (aa (VM ..) (Jw (kX (x.toNat ^^^ y.toNat)) (kX (x.toNat &&& y.toNat))))
theorem Dg{a:Int}(h:a.natAbs<2^k):zh a≤k:=by
 unfold zh
 split
 ·exact da _
 ·next h0=>exact (Jx (VS.mpr λe=>h0 (beq_iff_eq.mpr e))).mpr h
section
variable{X:Cx}{n:Nat}{L:Addr}{ae:List Loc}
def cK(X:Cx)(n:Nat)(L:Addr)(ae:List Loc)(st:St)(κ:bI)(s:al)(t:Sem α)(R:(Addr->Prop)->Heap->β->α->Prop)(K:β->St->Prop):Prop :=
 ∀A,cG n A->wpAny X.M A t (Post X L ae st.σ κ s.heap R K) (λJ J=>False) s
theorem cK.g{κ s}{t:Sem α}{R:(Addr->Prop)->Heap->β->α->Prop}{K:β->St->Prop}(h:cK X n L ae st κ s t R K):Op X n L ae st κ s t R K:=λA hr=>bc (h A hr)
theorem Dh(a b:List α):a.toArray++b.toArray=(a++b).toArray:=by simp
theorem oj{hp:Heap}{C:Value->Value->Prop}{a b:ab}{x:Value}{k:Int->Int->Prop}(h:lR a b k)(hx:am U hp a x)(hy:am U hp b y)(f:∀i j t u,k i j->C (.int i t) (.int j u)):C x y :=
 fP.of (C:=λa=>am U hp a x->C x y) h (λi h hx=>fP.of (C:=λb=>am U hp b y->C x y) h (λj h hy=>by obtain ⟨t,rfl⟩:=hx.int_inv;obtain ⟨u,rfl⟩:=hy.int_inv;exact f i j t u h) hy) hx
section
variable{st:St}{K:ab->St->Prop}{κ:bI}{s:al}(rel:Rel X L ae st κ s)
include rel
theorem lh{v:Int}(h:K (.int v) st){t:Tok}(e:s'.heap=s.heap:=by rfl)(e2:s'.os=s.os:=by rfl)(e3:s'.gens=s.gens:=by rfl):Post X L ae st.σ κ s.heap am K (.int v t) s':= .same rel e e2 e3 (.int _ _) h
theorem VT{p q:Int}{t u:Tok}(h:(0≤p/\p≤100/\0≤q/\q≤100)/\K (.int (p^q.toNat)) st):cK X n L ae st κ s (binaryOp .Pow (.int p t) (.int q u)) am K:=λA hr=>by
 obtain ⟨⟨h1,h2,h3,h4⟩,h⟩:=h
 have bg:∀{v:Int},v=p^q.toNat->(VU v).post (Post X L ae st.σ κ s.heap am K) s:=λe=>aa e (lh rel h)
 by_cases c1:(q==0)=true
 ·exact aho h3 c1 (bg (aa (eq_of_beq c1) ((Int.pow_zero p).symm)))
 by_cases c2:(p==0 || p==1)=true
 ·refine ahp h3 c1 c2 (bg ?_);rcases IQ.mp c2 with c | c<;>(refine aa (eq_of_beq c) ?_)
  ·have:q≠0:=λe=>c1 (beq_iff_eq.mpr e)
   exact aa (Int.zero_pow (λe=>c1 (beq_iff_eq.mpr (Jy (Int.toNat_eq_zero.mp e) h3)))) rfl
  ·exact aa Int.one_pow rfl
 refine ahq h3 c1 c2 (λc=>by have:=eq_of_beq c;exact absurd (this▸h1) (by decide)) (λc=> ?_) (bg rfl)
 have hb:=dT.mpr (Dg (a:=p) (k:=7) (il.mp (m9 (aa (VV h1) h2) (by decide))))
 have:((zh p:Nat):Int)*q≤7*100:=Int.mul_le_mul hb h4 h3 (by decide)
 unfold ahr at c
 exact absurd (Jz (of_decide_eq_true c) this) (by decide)
theorem VW{p q:Int}{t u:Tok}(h:(q≠0/\q.natAbs≤2^31)/\K (.int (p.fdiv q)) st):cK X n L ae st κ s (binaryOp .FloorDiv (.int p t) (.int q u)) am K:=λA hr=>by
 refine ahs (by simpa using h.1.1) ?_ (lh rel h.2)
 have:q.natAbs.log2<32:=(Jx (VS.mpr h.1.1)).mpr (eB h.1.2 (nb rfl))
 have h0:(q==0)=false:=by simpa using h.1.1
 unfold aht;simp only [h0,Ck,if_false]
 simp
 intro hh;exact absurd hh (dA.mpr (fO (ag (om ..) (ag (bO this) (nb rfl)))))
theorem VX{p q:Int}{t u:Tok}(h:(0≤p/\p≤2^31/\q=1)/\K (.int (p / 2)) st):cK X n L ae st κ s (binaryOp .RShift (.int p t) (.int q u)) am K:=λA hr=>by
 obtain ⟨⟨h1,h2,rfl⟩,h⟩:=h
 have bg:∀{v:Int},v=p / 2->(VU v).post (Post X L ae st.σ κ s.heap am K) s:=λe=>aa e (lh rel h)
 by_cases c:(1:Int) ≥ ((zh p:Nat):Int)
 ·refine ahu (by decide) c (bg ?_);refine aa (if_neg (jU.mpr h1)) ?_
  have hq:=dT.mp c
  unfold zh at hq
  by_cases q:(p==0)=true
  ·exact aa (eq_of_beq q) rfl
  ·rw [if_neg q] at hq
   have:p≠0:=λe=>q (beq_iff_eq.mpr e)
   have:p.natAbs<2^1:=(Jx (λe=>q (beq_iff_eq.mpr (Int.natAbs_eq_zero.mp e)))).mp (hq)
   exact (Int.ediv_eq_zero_of_lt h1 (ao (VV h1) (il.mpr this))).symm
 ·exact ahv (by decide) c (bg (BI _ (by decide)))
theorem JA{l l2:Addr}{x y:List ab}{vs ws:List Value}(hl:s.heap.IsList l vs.toArray)(iV:s.heap.IsList l2 ws.toArray)(aL:aN (aj st.σ κ) s.heap x vs)(fX:aN (aj st.σ κ) s.heap y ws)(h:dQ (x.length+y.length)/\K (.list (x++y)) st) :
  cK X n L ae st κ s (binaryOp .Add (.ref l) (.ref l2)) am K:=by
 obtain ⟨⟨cls,dd,data,sl⟩,ho,rfl,k,rfl⟩:=hl;obtain ⟨⟨VY,wf,data2,wi⟩,ru,rfl,k2,rfl⟩:=iV;exact λA hr=>concat_meets ⟨_,ho,rfl⟩ ⟨_,ru,rfl⟩ noFill_list_add seq_list_add PySem.F.slot_list_add PySem.F.entry_list_add (PySem.F.args_list_add_2 _ _) (list_addW l l2 vs.toArray ws.toArray k k2 dd wf sl wi (by
   refine aH fE fE (sL aL.length fX.length ?_);exact tD h.1)) ⟨ho,ru,ao ((Dh vs ws).symm) (.keep rel (er _ _) rfl rfl (.list (iK rel.g) ⟨_,cV _ rfl,rfl,0,rfl⟩ ((aL.append fX).mono (gI (er _ _)))) h.2)⟩
theorem VZ{l l2:Addr}{x y:List ab}{vs ws:List Value}(u:aj st.σ κ l)(u2:aj st.σ κ l2)(hl:s.heap.IsTuple l vs.toArray)(iV:s.heap.IsTuple l2 ws.toArray)(aL:aN (aj st.σ κ) s.heap x vs)(fX:aN (aj st.σ κ) s.heap y ws)(h:dQ (x.length+y.length)/\K (.tuple (x++y)) st) :
  cK X n L ae st κ s (binaryOp .Add (.ref l) (.ref l2)) am K:=λA hr=>by
 have g:=hl
 have g2:=iV
 obtain ⟨⟨cls,dd,data,sl⟩,ho,rfl,k,rfl⟩:=hl;obtain ⟨⟨VY,wf,data2,wi⟩,ru,rfl,k2,rfl⟩:=iV
 have go:=λ{S:PySem.Spec} W h=>concat_meets (T:= "tuple") (a:= .ref l) (b:= .ref l2) (Q:=Post X L ae st.σ κ s.heap am K) (A:=A) (prog:=X.prog) (w:=X.w) (E:=λJ J=>False) (s:=s) (S:=S) ⟨_,ho,rfl⟩ ⟨_,ru,rfl⟩ noFill_tuple_add seq_tuple_add PySem.F.slot_tuple_add PySem.F.entry_tuple_add (PySem.F.args_tuple_add_2 (.ref l) (.ref l2)) W h
 by_cases hv:vs= []
 ·have hp:=y6.mp (aL.length.trans (congrArg _ hv))
  exact go (tuple_addW0 l l2 vs.toArray ws.toArray k k2 dd wf sl wi (by simp [hv])) ⟨ho,ru, .same rel rfl rfl rfl (.tuple u2 g2 fX) (by have:=h.2;rw [hp] at this;exact this)⟩
 have JB:¬ vs.toArray.size=0:=by simpa using hv
 by_cases hw:ws= []
 ·have hq:=y6.mp (fX.length.trans (congrArg _ hw))
  exact go (tuple_addW1 l l2 vs.toArray ws.toArray k k2 dd wf sl wi (by simpa using hv) (by simp [hw])) ⟨ho,ru, .same rel rfl rfl rfl (.tuple u g aL) (by have:=h.2;rw [hq,iU] at this;exact this)⟩
 ·exact go (tuple_addW2 l l2 vs.toArray ws.toArray k k2 dd wf sl wi (by simpa using hv) (by simpa using hw) (by refine aH fE fE (sL aL.length fX.length ?_);exact tD h.1)) ⟨ho,ru,
   ao ((Dh vs ws).symm) (.keep rel (er _ _) rfl rfl (.tuple (iK rel.g) ⟨_,cV _ rfl,rfl,0,rfl⟩ ((aL.append fX).mono (gI (er _ _)))) h.2)⟩
theorem V1{l:Addr}{p:ab}{items:List Value}{q:Int}{tk:Tok}(u:aj st.σ κ l)(hl:s.heap.IsList l items.toArray)(aL:aN (aj st.σ κ) s.heap [p] items)(h:(0≤q/\q≤256)/\K (.list (cf q.toNat p)) st) :
  cK X n L ae st κ s (binaryOp .Mult (.ref l) (.int q tk)) am K:=by
 refine eR aL.cons_inv λy0 zs a0 jq hV=> ?_;subst a0;rw [hV.nil_inv] at hl
 obtain ⟨⟨h1,h2⟩,h⟩:=h;obtain ⟨⟨cls,d,data,sl⟩,ho,rfl,k,rfl⟩:=hl;refine λA hr=>wpAny_binaryOp_repeat_ref (T:= "list") (U:= "int") (by decide) ⟨_,ho,rfl⟩ (λs'=>typeIs_int s' q tk) noFill_list_mul F.fills_int_mul V3 repeat_list F.slot_int_index.lookup
  (zi V3 (typeIs_int s q tk) F.entry_int_rmul (F.args_int_rmul_2 _ _) (lm_int_rmul_list_any q tk l [y0].toArray k d sl)
   ⟨ho,rfl,⟨_,ho,rfl⟩,zi F.slot_list_mul ⟨_,ho,rfl⟩ F.entry_list_mul (F.args_list_mul_2 _ _)
    (lm_list_mul_any l [y0].toArray k d sl q tk (by simp [ahw];exact ⟨ic (by decide) h1,m9 h2 (by decide)⟩) (by simp;exact ic h2 (by decide)) (by simp [V4,sizeLine];exact ic h2 (by decide)))
    ⟨ho, ?_⟩⟩)
 refine aa (listMul_foldl_if ..) (aa (show (cf q.toNat [y0].toArray.toList).flatten=cf q.toNat y0 by simp) ?_);exact .keep rel (er _ _) rfl rfl (.list (iK rel.g) ⟨_,cV _ rfl,rfl,0,rfl⟩ (((show ∀m:Nat,aN (aj st.σ κ) s.heap (cf m p) (cf m y0) from λm=>m.rec .nil λJ ih=> .cons jq ih) _).mono (gI (er _ _)))) h
theorem V'{op a b x y}(h:yl op a b st K)(hx:am (aj st.σ κ) s.heap a x)(hy:am (aj st.σ κ) s.heap b y):cK X n L ae st κ s (binaryOp op x y) am K:=by
 rcases op with ⟨⟩<;>first | exact h.elim | skip
 ·rcases a with ⟨⟩<;>first | exact h.elim | skip
  ·cases hx.bQ;refine ti.of (C:=λv=>cK X n L ae st κ s (binaryOp .Add v y) am K) h λl h=>tj.of (C:=λb=>am (aj st.σ κ) s.heap b y->cK X n L ae st κ s (binaryOp .Add (.ref l) y) am K) h (λv h hy=> ?_) hy;cases hy.bQ;refine ti.of (C:=λv=>cK X n L ae st κ s (binaryOp .Add (.ref l) v) am K) h λr h=>eR h λp q fu Wa h=> ?_;exact aB (rel.g.own l _ fu) λvs hl aL=>aB (rel.g.own r _ Wa) λws iV fX=>JA rel hl.list iV.list aL fX h
  ·refine fP.of (C:=λb=>am (aj st.σ κ) s.heap b y->cK X n L ae st κ s (binaryOp .Add x y) am K) h (λj h hy=> ?_) hy;obtain ⟨t,rfl⟩:=hx.int_inv;obtain ⟨u,rfl⟩:=hy.int_inv;exact λA hr=>ahx (lh rel h)
  ·refine pq.of (C:=λb=>am (aj st.σ κ) s.heap b y->cK X n L ae st κ s (binaryOp .Add x y) am K) h (λj h hy=> ?_) hy;obtain ⟨t,rfl⟩:=hx.mI;obtain ⟨u,rfl⟩:=hy.mI;exact λA hr=>ahy (by have:=h.1;unfold dQ at this;simp;exact ag this (nb rfl)) λt' k=> .same rel rfl rfl rfl (ao ((Dh _ _).symm) (.bytes _ _)) h.2
  ·refine kW.of (C:=λb=>am (aj st.σ κ) s.heap b y->cK X n L ae st κ s (binaryOp .Add x y) am K) h (λj h hy=> ?_) hy;obtain ⟨l,vs,rfl,u,hl,aL⟩:=hx.inv;refine eK hy.inv λl2 ws a0 u2 iV fX=> ?_;subst a0;exact JA rel hl iV aL fX h
  ·refine yk.of (C:=λb=>am (aj st.σ κ) s.heap b y->cK X n L ae st κ s (binaryOp .Add x y) am K) h (λj h hy=> ?_) hy;obtain ⟨l,vs,rfl,u,hl,aL⟩:=hx.inv;refine eK hy.inv λl2 ws a0 u2 iV fX=> ?_;subst a0;exact VZ rel u u2 hl iV aL fX h
 ·exact oj (C:=λx y=>cK X n L ae st κ s (binaryOp .Sub x y) am K) h hx hy λi j t u h A hr=>ahz (lh rel h)
 ·rcases a with ⟨⟩<;>first | exact h.elim | skip
  ·refine fP.of (C:=λb=>am (aj st.σ κ) s.heap b y->cK X n L ae st κ s (binaryOp .Mult x y) am K) h (λj h hy=> ?_) hy;obtain ⟨t,rfl⟩:=hx.int_inv;obtain ⟨u,rfl⟩:=hy.int_inv;exact λA hr=>ahA (lh rel h.2) (.of_left (ag (Dg (k:=32) (eB h.1.1 (nb rfl))) (nb rfl)))
  ·rcases vs with _ | ⟨p,_ | _⟩<;>first | exact h.elim | skip
   refine fP.of (C:=λb=>am (aj st.σ κ) s.heap b y->cK X n L ae st κ s (binaryOp .Mult x y) am K) h (λj h hy=> ?_) hy;refine eK hx.inv λl vs a0 u hl aL=> ?_;subst a0;obtain ⟨u,rfl⟩:=hy.int_inv;exact V1 rel (by assumption) hl aL h
 ·exact oj (C:=λx y=>cK X n L ae st κ s (binaryOp .Mod x y) am K) h hx hy λi j t u h A hr=>ahB (by simpa using h.1) (lh rel (ao (lS i j) h.2))
 ·exact oj (C:=λx y=>cK X n L ae st κ s (binaryOp .Pow x y) am K) h hx hy λi j t u h=>VT rel h
 ·exact oj (C:=λx y=>cK X n L ae st κ s (binaryOp .LShift x y) am K) h hx hy λp q t u h A hr=>jQ.of (C:=λp=>wpAny X.M A (binaryOp .LShift (.int p t) (.int q u)) (Post X L ae st.σ κ s.heap am K) (λJ J=>False) s) h λp h=>cX.of h λe h=>by
   cases tm.eq e;exact lshift_int (by decide) (ic (Int.add_le_add_right (dT.mpr (Dg (a:=p) (k:=32) (by have:=h.1;exact eB h.1 (nb rfl)))) 1) (by decide)) (lh rel (show K (.int ((p:Int)*2^(1:Int).toNat)) st from h.2))
 ·exact oj (C:=λx y=>cK X n L ae st κ s (binaryOp .RShift x y) am K) h hx hy λi j t u h=>jQ.of (C:=λi=>cK X n L ae st κ s (binaryOp .RShift (.int i t) (.int j u)) am K) h λi h=>cX.of h λe h=>VX rel ⟨⟨eh i,dT.mpr h.1,tm.eq e⟩,h.2⟩
 ·exact oj (C:=λx y=>cK X n L ae st κ s (binaryOp .BitXor x y) am K) h hx hy λi j t u h A hr=>jQ.of (C:=λi=>wpAny X.M A (binaryOp .BitXor (.int i t) (.int j u)) _ _ s) h λi h=>jQ.of (C:=λj=>wpAny X.M A (binaryOp .BitXor (.int i t) (.int j u)) (Post X L ae st.σ κ s.heap am K) (λJ J=>False) s) h λj h=>xor_int (lh rel (aa (VO (eh i) (eh j)) h))
 ·exact oj (C:=λx y=>cK X n L ae st κ s (binaryOp .BitAnd x y) am K) h hx hy λi j t u h A hr=>jQ.of (C:=λi=>wpAny X.M A (binaryOp .BitAnd (.int i t) (.int j u)) _ _ s) h λi h=>jQ.of (C:=λj=>wpAny X.M A (binaryOp .BitAnd (.int i t) (.int j u)) (Post X L ae st.σ κ s.heap am K) (λJ J=>False) s) h λj h=>and_int (lh rel (aa (Ju (eh i) (eh j)) h))
 ·exact oj (C:=λx y=>cK X n L ae st κ s (binaryOp .FloorDiv x y) am K) h hx hy λi j t u h=>VW rel (ao (pr i j) h)
theorem Wb{op a b x y}(h:BJ op a b st K)(hx:am (aj st.σ κ) s.heap a x)(hy:am (aj st.σ κ) s.heap b y):cK X n L ae st κ s (inplaceOp op x y) am K:=by
 rcases op with ⟨⟩<;>first | exact h.elim | exact oj (C:=λx y=>cK X n L ae st κ s (inplaceOp .Add x y) am K) h hx hy λi j t u h A hr=>ahC (lh rel h)
theorem Wc{i x}(h:K (.int (-i)) st)(hx:am (aj st.σ κ) s.heap (.int i) x):cK X n L ae st κ s (unaryOp .USub x) am K:=λA hr=>by
 obtain ⟨t,rfl⟩:=hx.int_inv;exact P.neg_int (lh rel h)
end
end
section
open PySem.SeqAt
theorem Wd(b:Array UInt8)(t:Tok):Gives (fY.«bytes.__eq__» ⟨[.bytes b t, .none],[]⟩) (.val .notImplemented):=by
 refine .of_wp λM A E s Q hq=>(?_:wpAny M A (isInstance .none (.type "bytes")>>=λr=>_) _ E s);refine au (rx (T:= "NoneType") rfl JC ?_);refine au (rx (T:= "NoneType") rfl JC ?_);refine aa (if_pos (by rfl)) (au (jt ?_));exact aU ⟨_,rfl,hq⟩
theorem We(b:Array UInt8)(t:Tok):Gives (fY.«NoneType.__eq__» ⟨[.none, .bytes b t],[]⟩) (.val (ahD)) :=
 .of_wp λM A E s Q h=>by obtain ⟨hp,g,d,tk,os⟩:=s;wp_walk;exact ⟨_,rfl,h⟩
section
variable{A:cA}{s:al}
theorem Wf(b:Array UInt8)(t:Tok):RcAt A s (.bytes b t) .none false:=λprog w E Q h =>
 rc_eq_decline_or (k:=false) (lj s b t) rfl (by decide) JC JD Wg
  (λJ hq=>call_gives JD (lj s b t) Wh (Wi _ _) (Wd b t) hq)
  (λJ hq=>call_gives Wg rfl F.entry_NoneType_eq (F.args_NoneType_eq_2 _ _) (We b t) hq)
  (λJ hq=>dU (rfl:isSame (.bytes b t) .none=pure false) hq) (.inl rfl) h
theorem Wj(b:Array UInt8)(t:Tok)(c:Array UInt8)(u:Tok):RcAt A s (.bytes b t) (.bytes c u) (b.toList==c.toList):=λprog w E Q h =>
 Wl (op:= .Eq) (lj s b t) (lj s c u) JD Wh (Wi _ _) (gives_bytes_eq b c t u) (λx=>nomatch x) h
theorem Wm{x:Value}{k:Bool}(h:RcAt A s x y k)(hx:∀f t,x≠ .float f t)(hk:x=y->k=true):EqAt A s x y k:=λprog w E Q hq=>by
 refine kt (wpAny_ite_split (λdc=> ?_) (λJ=> ?_))
 ·rw [hk (eq_of_beq dc)] at hq
  exact au (jt (aU hq))
 ·rcases x with ⟨⟩<;>first | exact absurd rfl (hx _ _) | exact au (h prog w E _ (GE hq))
end
theorem Di{h:Heap}{cs ds:List Value}{T:String}(x:∃o,h.get? a=some o/\o.cls= .type T/\∃n,o.data= .seq cs.toArray n)(y:∃o,h.get? a=some o/\o.cls= .type T/\∃n,o.data= .seq ds.toArray n):cs=ds:=by
 obtain ⟨o,g,_,n,d⟩:=x;obtain ⟨o2,g2,_,n2,d2⟩:=y;cases aM (g.symm.trans g2)
 injection d.symm.trans d2 with d2
 exact congrArg Wn d2
theorem Wo{U h}{w:ab}{b:Bool}(d:kg k v w b):∀{x:Value},am U h v x->am U h w x->b=true:=by
 have items:∀{vs ws:List ab} {e:Nat->Bool} {cs:List Value},vs.length=ws.length->(∀(j:Nat) v w,vs[j]? =some v->ws[j]? =some w->∀{x:Value},am U h v x->am U h w x->e j=true)->aN U h vs cs->aN U h ws cs->(aK vs.length).all e=true:=λ{vs ws e cs} hl he h1 h2 =>
  fx.mpr λj hj=>by
   have hj:=fU.mp hj
   refine aB (h1.get (bE hj)) λx1 a1 r1=> ?_;refine aB (h2.get (bE (ao hl hj))) λx2 a2 r2=> ?_;cases aM (a1.symm.trans a2);exact he j _ _ (bE hj) (bE (ao hl hj)) r1 r2
 induction d with
 | base q =>
  intro x hv hw;rcases q with _ | ⟨a,b⟩ | b | ⟨i,j⟩ | ⟨a,b⟩
  ·rfl
  ·cases hv.bQ.symm.trans hw.bQ;exact beq_self_eq_true _
  ·obtain ⟨t,rfl⟩:=hv.inv;cases hw.bQ
  ·obtain ⟨t,rfl⟩:=hv.inv;obtain ⟨u,e⟩:=hw.int_inv
   injection e with e
   exact decide_eq_true e
  ·obtain ⟨t,rfl⟩:=hv.inv;obtain ⟨u,e⟩:=hw.mI
   injection e with e
   exact decide_eq_true (congrArg Wn e)
 | list e hl _ ih =>
  intro x hv hw;obtain ⟨a,cs,rfl,u,l1,h1⟩:=hv.inv;obtain ⟨a',JE,ea,u',l2,h2⟩:=hw.inv;cases ea;cases Di l1 l2;exact items hl ih h1 h2
 | BG bt =>
  intro x hv hw;obtain ⟨a,cs,rfl,u,l1,h1⟩:=hv.inv;obtain ⟨a',JE,ea,u',l2,h2⟩:=hw.inv;cases ea;cases Di l1 l2;exact absurd (h1.length.trans h2.length.symm) bt
 | tuple e hl _ ih =>
  intro x hv hw;obtain ⟨a,cs,rfl,u,l1,h1⟩:=hv.inv;obtain ⟨a',JE,ea,u',l2,h2⟩:=hw.inv;cases ea;cases Di l1 l2;exact items hl ih h1 h2
theorem JF(a:List UInt8)(t)(b:List UInt8)(u):RcAt A s (.bytes a.toArray t) (.bytes b.toArray u) (decide (a=b)):=by
 have:=Wj (A:=A) (s:=s) a.toArray t b.toArray u
 rwa [show (a.toArray.toList==b.toArray.toList)=decide (a=b) from Wp.mpr (beq_iff_eq.trans decide_eq_true_iff.symm)] at this
section
variable{s:al}{U:Addr->Prop}
theorem JG{w:ab}{x:Value}{b:Bool}(q:kV v w b)(hv:am U s.heap v x)(hw:am U s.heap w y):RcAt A s x y b:=by
 rcases q with _ | ⟨a,b⟩ | b | ⟨i,j⟩ | ⟨a,b⟩
 ·cases hv.bQ;cases hw.bQ;exact .none_none
 ·cases hv.bQ;cases hw.bQ;exact .bool_bool _ _
 ·obtain ⟨t,rfl⟩:=hv.inv;cases hw.bQ;exact Wf _ _
 ·obtain ⟨t,rfl⟩:=hv.inv;obtain ⟨u,rfl⟩:=hw.inv;exact RcAt.int_int (A:=A) (s:=s) i t j u
 ·obtain ⟨t,rfl⟩:=hv.inv;obtain ⟨u,rfl⟩:=hw.inv;exact JF (A:=A) (s:=s) a t b u
theorem Wq{w:ab}{b:Bool}{f t}(d:kg k v w b)(hv:am U s.heap v (.float f t)):False:=by
 rcases d with q | _ | _ | _
 ·rcases q with _ | ⟨a,b⟩ | b | ⟨i,j⟩ | ⟨a,b⟩
  ·cases hv.bQ
  ·cases hv.bQ
  ·obtain ⟨_,e⟩:=hv.inv;cases e
  ·obtain ⟨_,e⟩:=hv.inv;cases e
  ·obtain ⟨_,e⟩:=hv.inv;cases e
 ·obtain ⟨_,_,e,_⟩:=hv.inv;cases e
 ·obtain ⟨_,_,e,_⟩:=hv.inv;cases e
 ·obtain ⟨_,_,e,_⟩:=hv.inv;cases e
theorem JH{w:ab}{x:Value}{b:Bool}(d:kg k v w b)(rc:RcAt A s x y b)(hv:am U s.heap v x)(hw:am U s.heap w y):EqAt A s x y b :=
 Wm rc (λJ J e=>Wq d (e▸hv)) λe=>Wo d hv (e▸hw)
theorem zj{ws:List ab}{e:Nat->Bool}{cs ds:List Value}(hl:vs.length=ws.length)(hd:∀(j:Nat) v w,vs[j]? =some v->ws[j]? =some w->kg k v w (e j))(rc:∀(j:Nat) v w x y,vs[j]? =some v->ws[j]? =some w->am U s.heap v x->am U s.heap w y->RcAt A s x y (e j))
  (h1:aN U s.heap vs cs) (h2:aN U s.heap ws ds) (j:Nat) (j1:j<cs.toArray.size) (j2:j<ds.toArray.size):EqAt A s cs.toArray[j] ds.toArray[j] (e j):=by
 have j1:j<cs.length:=j1
 have j2:j<ds.length:=j2
 have hj:j<vs.length:=h1.length▸j1
 have ku:j<ws.length:=ao hl hj
 refine aB (h1.get (bE hj)) λx1 a1 r1=> ?_;refine aB (h2.get (bE ku)) λx2 a2 r2=> ?_;cases aM ((bE j1).symm.trans a1);cases aM ((bE j2).symm.trans a2);exact JH (hd j _ _ (bE hj) (bE ku)) (rc j _ _ _ _ (bE hj) (bE ku) r1 r2) r1 r2
theorem Dj{w:ab}{b:Bool}(d:kg k v w b):∀{A:cA} {x y:Value},A.units+k<cLine->am U s.heap v x->am U s.heap w y->RcAt A s x y b:=by
 induction d with
 | base q=>exact λJ hv hw=>JG q hv hw
 | list e hl hd ih =>
  intro A x y hu hv hw;obtain ⟨a,cs,rfl,_,l1,h1⟩:=hv.inv;refine eK (hw.inv) λa' ds bL J l2 h2=> ?_;subst bL;exact aa (show (aK _).all e=(aK cs.toArray.size).all e by rw [h1.length];rfl) (.lists l1 l2 (h1.length.symm.trans (hl.trans h2.length)) (sS hu) (zj (A:=A.in1) hl hd (λj v w x y a b=>ih j v w a b (by show A.units+1+_<_;exact xY hu)) h1 h2))
 | BG bt =>
  intro A x y hu hv hw;refine eK (hv.inv) λa cs bL J l1 h1=> ?_;subst bL;refine eK (hw.inv) λa' ds bL J l2 h2=> ?_;subst bL;exact .lists_lengths l1 l2 (bne_iff_ne.mpr λe=>bt (h1.length.trans (JI e h2.length.symm))) (sS hu)
 | tuple e hl hd ih =>
  intro A x y hu hv hw;obtain ⟨a,cs,rfl,_,l1,h1⟩:=hv.inv;refine eK (hw.inv) λa' ds bL J l2 h2=> ?_;subst bL
  have hs:cs.toArray.size=ds.toArray.size:=h1.length.symm.trans (hl.trans h2.length)
  have:=RcAt.tuples (A:=A) l1 l2 (sS hu) (zj (A:=A.in1) hl hd (λj v w x y a b=>ih j v w a b (by show A.units+1+_<_;exact xY hu)) h1 h2)
  rw [<-hs,rA,beq_self_eq_true,Wr] at this
  exact aa (show (aK _).all e=(aK cs.toArray.size).all e by rw [h1.length];rfl) this
end
end
section
variable {h:Heap}
section
open PySem.SeqAt
section
variable{s:al}{U:Addr->Prop}
theorem ne_bytes(i:List UInt8)(t)(j:List UInt8)(u):RcNeAt A s (.bytes i.toArray t) (.bytes j.toArray u) (!decide (i=j)):=by
 intro prog w E Q h;refine Wl (op:= .NotEq) (lj s _ _) (lj s _ _) FB.slot_bytes_ne FB.entry_bytes_ne (FB.args_bytes_ne_2 _ _) (gives_bytes_ne _ _ _ _) gN (?_:Q (.bool (!(i.toArray.toList==j.toArray.toList))) s);exact aa (show (i.toArray.toList==j.toArray.toList)=decide (i=j) from Wp.mpr (beq_iff_eq.trans decide_eq_true_iff.symm)) h
theorem Ws{w:ab}{x:Value}{b:Bool}(hu:A.units+k<cLine)(ee:GW v w=true)(d:kg k v w b)(hv:am U s.heap v x)(hw:am U s.heap w y):RcNeAt A s x y (!b):=by
 rcases d with q | ⟨e,hl,hd⟩ | bt | ⟨e,hl,hd⟩
 ·rcases q with _ | ⟨a,b⟩ | b | ⟨i,j⟩ | ⟨a,b⟩
  ·exact ff ee
  ·cases hv.bQ;cases hw.bQ;exact .bool_bool _ _
  ·exact ff ee
  ·refine iE hv.inv λt a0=> ?_;subst a0;obtain ⟨u,rfl⟩:=hw.inv;exact RcNeAt.int_int _ _ _ _
  ·refine iE hv.inv λt a0=> ?_;subst a0;obtain ⟨u,rfl⟩:=hw.inv;exact ne_bytes _ _ _ _
 ·obtain ⟨a,cs,rfl,_,l1,h1⟩:=hv.inv;refine eK (hw.inv) λa' ds bL J l2 h2=> ?_;subst bL;exact aa (show (aK _).all e=(aK cs.toArray.size).all e by rw [h1.length];rfl) (.lists l1 l2 (h1.length.symm.trans (hl.trans h2.length)) (sS hu) (zj (A:=A.in1) hl hd (λj v w x y a b=>Dj (hd j v w a b) (by show A.units+1+_<_;exact xY hu)) h1 h2))
 ·refine eK (hv.inv) λa cs bL J l1 h1=> ?_;subst bL;refine eK (hw.inv) λa' ds bL J l2 h2=> ?_;subst bL;exact .lists_lengths l1 l2 (bne_iff_ne.mpr λe=>bt (h1.length.trans (JI e h2.length.symm))) (sS hu)
 ·obtain ⟨a,cs,rfl,_,l1,h1⟩:=hv.inv;refine eK (hw.inv) λa' ds bL J l2 h2=> ?_;subst bL
  have:=RcNeAt.tuples (A:=A) l1 l2 (sS hu) (zj (A:=A.in1) hl hd (λj v w x y a b=>Dj (hd j v w a b) (by show A.units+1+_<_;exact xY hu)) h1 h2)
  rw [<-(show cs.toArray.size=ds.toArray.size from h1.length.symm.trans (hl.trans h2.length)),rA,beq_self_eq_true,Wr] at this
  exact aa (show (aK _).all e=(aK cs.toArray.size).all e by rw [h1.length];rfl) this
end
noncomputable def JJ(v:Value):Option (Array UInt8):=v.casesOn none none none (λJ=>none) (λJ J=>none) (λJ J=>none) (λJ J=>none) (λb J=>some b) (λJ=>none) (λJ=>none) λJ=>none
noncomputable def me(x y:Value):Bool:=xV ((JJ x).any λb=>(JJ y).any λc=>decide (b.toList=c.toList)) (xV false true (λJ=>false) (λJ=>false) (λJ=>false) y) (λa=>xV false false (λb=>a==b) (λJ=>false) (λJ=>false) y) (λi=>xV false false (λJ=>false) (λj=>decide (i=j)) (λJ=>false) y) (λJ=>false) x
theorem Wu{w:ab}{x:Value}{b:Bool}(q:kV v w b)(hv:am U h v x)(hw:am U h w y):b=me x y:=by
 rcases q with _ | ⟨a,b⟩ | b | ⟨i,j⟩ | ⟨a,b⟩
 ·cases hv.bQ;cases hw.bQ;rfl
 ·cases hv.bQ;cases hw.bQ;rfl
 ·obtain ⟨t,rfl⟩:=hv.inv;cases hw.bQ;rfl
 ·obtain ⟨t,rfl⟩:=hv.inv;obtain ⟨u,rfl⟩:=hw.inv;rfl
 ·obtain ⟨t,rfl⟩:=hv.inv;obtain ⟨u,rfl⟩:=hw.inv;rfl
theorem Wv{w:ab}{ws:List ab}{b:Bool}(h:kh v (w::ws)=some b):∃a c,gf w v=some a/\kh v ws=some c/\b=(a || c) :=
 (cQ.mp h).elim λa h=>(lQ.mp h.2).elim λc q=>⟨a,c,h.1,q.1,q.2.symm⟩
theorem zk{x:Value}(hv:am U h v x){ws:List ab}(hw:aN U h ws ys):∀{b:Bool},kh v ws=some b->b=ys.any (λy=>me y x)/\∀y∈ys,∃w,am U h w y/\kV w v (me y x):=by
 refine hw.ind (P:=λws ys=>∀{b:Bool},kh v ws=some b->b=ys.any (λy=>me y x)/\∀y∈ys,∃w,am U h w y/\kV w v (me y x)) (λe=>⟨(aM e).symm,λJ h=>absurd h dJ⟩) λh1 J ih b hq=> ?_
 ·skip
  refine eR (Wv hq) λa c ha hc wj=> ?_;subst wj;obtain ⟨e1,e2⟩:=ih hc
  have e0:=Wu (yj ha) h1 hv
  subst e0 e1;refine ⟨rfl,λz hz=> ?_⟩;rcases bq.mp hz with rfl | hz
  ·exact ⟨_,h1,yj ha⟩
  ·exact e2 z hz
section
variable{X:Cx}{n:Nat}{L:Addr}{ae:List Loc}
inductive rB(U:Addr->Prop)(h:Heap)(vs:List ab):Value->Prop
 | list {a:Addr} {ys:List Value}:aN U h vs ys->h.IsList a ys.toArray->rB U h vs (.ref a)
 | tuple {a:Addr} {ys:List Value}:aN U h vs ys->h.IsTuple a ys.toArray->rB U h vs (.ref a)
theorem zl{σ κ}{x:Value}(G:bk X σ κ s)(hs:eV σ v=some vs)(hv:am (aj σ κ) s.heap v x):rB (aj σ κ) s.heap vs x:=by
 refine eV.of (C:=λv=>am (aj σ κ) s.heap v x->rB (aj σ κ) s.heap vs x) hs (λr=> ?_) (λr=> ?_) (λa q r=> ?_) hv
 ·refine eK r.inv λa ys a0 J l h=> ?_;subst a0;exact .list h l
 ·refine eK r.inv λa ys a0 J l h=> ?_;subst a0;exact .tuple h l
 ·cases r.bQ;exact aB (G.own _ _ q) λitems hl aL=> .list aL hl.list
theorem zm{x:Value}(hx:am U s.heap v x)(he:∀y∈ys,∃w,am U s.heap w y/\kV w v (me y x))(y)(h:y∈ys.toArray):EqAt A s y x (me y x):=by
 exact aB (he y (Dl.mp h)) λw hw hq=>JH (k:=0) (.base hq) (JG hq hw hx) hw hx
theorem zn{f:Value->Bool}:ys.toArray.any f=ys.any f:=JK
theorem Ww{x:Value}{ws:List ab}{r:Bool}{E}(sr:rB U s.heap ws y)(hx:am U s.heap v x)(ip:kh v ws=some r)(h:Q (.bool r) s):wpAny X.M A (compareOp .In x y) Q E s:=by
 rcases sr with ⟨hw,l⟩ | ⟨hw,l⟩
 ·obtain ⟨rfl,he⟩:=zk hx hw ip;exact in_listAt (λy=>me y x) l (zm hx he) (zn▸h)
 ·obtain ⟨rfl,he⟩:=zk hx hw ip;exact in_tupleAt (λy=>me y x) l (zm hx he) (zn▸h)
theorem Wx{x:Value}{ws:List ab}{r:Bool}{E}(sr:rB U s.heap ws y)(hx:am U s.heap v x)(ip:kh v ws=some r)(h:Q (.bool (!r)) s):wpAny X.M A (compareOp .NotIn x y) Q E s:=by
 rcases sr with ⟨hw,l⟩ | ⟨hw,l⟩
 ·obtain ⟨rfl,he⟩:=zk hx hw ip;exact notIn_listAt (λy=>me y x) l (zm hx he) (zn▸h)
 ·obtain ⟨rfl,he⟩:=zk hx hw ip;exact notIn_tupleAt (λy=>me y x) l (zm hx he) (zn▸h)
theorem Wy{f a b r}{C:ab->ab->Bool->Prop}(h:tt f a b=some r)(k:∀x y,C (.int x) (.int y) (f x y)):C a b r:=by
 rcases a with ⟨⟩<;>first | exact nn h | skip
 rcases b with ⟨⟩<;>first | exact nn h | exact aM h▸k _ _
theorem Wz{b:Bool}{x:Option α}{r:α}(h:(if b=true then x else none)=some r):b=true/\x=some r:=by
 rcases b with _ | _
 ·exact nn h
 ·exact ⟨rfl,h⟩
theorem WA{a b r}{C:ab->Bool->Prop}(h:ym a b=some r)(k1:C (.raw .none) true)(k2:∀p,C (.ref p) false)(k3:∀p,C (.bytes p) false):b= .none/\C a r:=by
 by_cases q:vg b=true
 ·replace h:=(if_pos q).symm.trans h;refine ⟨BF q, ?_⟩;rcases a with ⟨⟩<;>first | exact nn h | exact aM h▸k3 _ | skip
  rcases v with ⟨⟩<;>first | exact nn h | exact aM h▸k1 | exact aM h▸k2 _
 ·exact nn ((if_neg q).symm.trans h)
section
variable{U:Addr->Prop}{s:al}{A:cA}{a b:ab}{x y:Value}{r:Bool}{E:Value->al->Prop}{Q:Value->al->Prop}(hx:am U s.heap a x)(hy:am U s.heap b y)
include hx hy
theorem zo{op:fm}{f:Int->Int->Bool}(k:∀{i j:Int} {t u},Q (.bool (f i j)) s->wpAny X.M A (compareOp op (.int i t) (.int j u)) Q E s)(h:tt f a b=some r)(q:Q (.bool r) s):wpAny X.M A (compareOp op x y) Q E s :=
 Wy (C:=λa b r=>am U s.heap a x->am U s.heap b y->Q (.bool r) s->wpAny X.M A (compareOp op x y) Q E s) h (λJ J hx hy q=>by
  obtain ⟨_,rfl⟩:=hx.inv;obtain ⟨_,rfl⟩:=hy.inv;exact k q) hx hy q
theorem JL{g:Bool->Bool}{op:fm}(k:∀{x:Value},plainIs x .none=true->Q (.bool (g (x== .none))) s->wpAny X.M A (compareOp op x .none) Q E s)(h:ym a b=some r)(q:Q (.bool (g r)) s):wpAny X.M A (compareOp op x y) Q E s:=by
 obtain ⟨rfl,z⟩:=WA (C:=λa r=>am U s.heap a x->Q (.bool (g r)) s->wpAny X.M A (compareOp op x .none) Q E s) h (λhx q=>by
  cases hx.bQ;exact k rfl q) (λJ hx q=>by
  cases hx.bQ;exact k rfl q) λJ hx q=>by
  obtain ⟨_,rfl⟩:=hx.inv;exact k rfl q
 cases hy.bQ;exact z hx q
end
theorem WB{op a b}{K:Bool->St->Prop}{κ s x y}(rel:Rel X L ae st κ s)(h:eX op a b st K)(hx:am (aj st.σ κ) s.heap a x)(hy:am (aj st.σ κ) s.heap b y):cK X n L ae st κ s (compareOp op x y) yv K:=by
 intro A hr;refine aB (h.ex) λr h bg=> ?_
 have bg:Post X L ae st.σ κ s.heap yv K (.bool r) s:= .same rel rfl rfl rfl rfl bg
 have units:A.units+3<cLine:=by have:=hr.units;unfold cLine;exact eB (gz (ag (b6 ..) this) 3) (nb rfl)
 generalize Post X L ae st.σ κ s.heap yv K=Q at bg ⊢
 rcases op with ⟨⟩
 ·exact Dj (GV 3 h) units hx hy _ _ _ _ bg
 ·obtain ⟨ee,h⟩:=Wz h;refine aB (lQ.mp h) λb' hb a0=> ?_;subst a0;exact Ws units ee (GV 3 hb) hx hy _ _ _ _ bg
 ·exact zo hx hy lt_int h bg
 ·exact zo hx hy le_int h bg
 ·exact zo hx hy gt_int h bg
 ·exact zo hx hy ge_int h bg
 ·exact JL (g:=id) hx hy wpAny_is_plain h bg
 ·refine aB (lQ.mp h) λb' hb a0=> ?_;subst a0;exact JL (g:=(λz=>!z)) hx hy wpAny_isNot_plain hb bg
 ·exact aB (cQ.mp h) λws hs ip=>Ww (zl rel.g hs hy) hx ip bg
 ·obtain ⟨r',h2,rfl⟩:=lQ.mp h;exact aB (cQ.mp h2) λws hs ip=>Wx (zl rel.g hs hy) hx ip bg
theorem sQ.ind{P:List Int->List ab->List DictEntry->Prop}(nil:P [] [] [])(cons:∀{k v t y ks vs es},am U h v y->sQ U h ks vs es->P ks vs es->P (k::ks) (v::vs) (⟨hashInt k, .int k t,y⟩::es)){ks vs es}(r:sQ U h ks vs es):P ks vs es :=
 r.rec (motive:=λi J=>i.rec (λJ J=>True) (λJ J=>True) (λJ J=>True) P) (λJ=>⟨⟩) (λJ J=>⟨⟩) (λJ J=>⟨⟩) (λJ J J J=>⟨⟩) (λJ J J J=>⟨⟩) (λJ J J J J J=>⟨⟩) (λJ J J J J J=>⟨⟩) (λJ J J J=>⟨⟩) ⟨⟩ (λJ J J J=>⟨⟩) ⟨⟩ (λJ J J J=>⟨⟩) nil λa b J d=>cons a b d
theorem Dm(prog:dN)(w:cO)(k:Int)(t):(intKind prog w).is k (.int k t)=true:=by simp [intKind,zp]
theorem JM(prog:dN)(w:cO){ks:List Int}{es:List DictEntry}(r:sQ U h ks vs es) :
  ∃ys:List Value,Pairs (intKind prog w) es (ks.zip ys)/\KeysOf (intKind prog w) es.toArray/\aN U h vs ys/\ks.length=ys.length:=by
 refine r.ind (P:=λks vs es=>∃ys:List Value,Pairs (intKind prog w) es (ks.zip ys)/\KeysOf (intKind prog w) es.toArray/\aN U h vs ys/\ks.length=ys.length) ⟨[], .nil,λe he=>absurd (Dl.mp he) dJ, .nil,rfl⟩ λ{k v t y ks vs es} a _ ih=>qE (ih) λys h1 h2 h3 h4=> ?_;refine ⟨y::ys, .cons (Dm prog w k t) rfl h1,λe he=> ?_, .cons a h3,congrArg (λz=>z +1) h4⟩;rcases bq.mp (Dl.mp he) with rfl | he
 ·exact ⟨k,Dm prog w k t,rfl⟩
 ·exact h2 e (Dl.mpr he)
theorem WC{k:Int}(r:aN U h vs ys):∀{ks:List Int},qT k ks vs=some v->∃y,valueAt (ks.zip ys) k=some y/\am U h v y:=by
 refine r.ind (P:=λvs ys=>∀{ks:List Int},qT k ks vs=some v->∃y,valueAt (ks.zip ys) k=some y/\am U h v y) (λ{ks} q=> ?_) λ{w y vs ys} r _ ih ks q=> ?_
 ·rcases ks with _ | _<;>exact nn q
 ·rcases ks with _ | ⟨j,ks⟩
  ·exact nn q
  ·by_cases e:k=j
   ·cases (aM ((if_pos e).symm.trans q));subst e;exact ⟨y,congrArg (yn wd) (JN (p:=λkv:Int×Value=>decide (kv.1=k)) (decide_eq_true rfl)),r⟩
   ·exact aB (ih ((if_neg e).symm.trans q)) λz a b=>⟨z,(congrArg (yn wd) (JO (p:=λkv:Int×Value=>decide (kv.1=k)) λq=>e (of_decide_eq_true q).symm)).trans a,b⟩
theorem WD(prog:dN)(w:cO){U:Addr->Prop}{a:Addr}{ks:List Int}{ys:List Value}{es:List DictEntry}{n:Nat}(g:h.get? a=some (dictOf es n))(hk:KeysOf (intKind prog w) es.toArray)(hp:Pairs (intKind prog w) es (ks.zip ys))(hl:ks.length=ys.length)(nd:ks.Nodup):h.DictOf (intKind prog w) a (ks.zip ys) :=
 ⟨_,_,_,g,⟨rfl,rfl,rfl⟩,rfl,hk,hp,ao ((JP (bS hl)).symm) nd⟩
inductive tS(X:Cx)(s:al)(x y:Value)(Q:Value->al->Prop):Prop
 | mk (T id):s.TypeIs x T->typeLookup (.type T) "__getitem__" =pure (some (.builtin id))->(∀n A,cG n A->wpAny X.M A (getItem x y) Q (λJ J=>False) s)->tS X s x y Q
theorem get_dict{ks vs v k x t}(hx:am U s.heap (.dict ks vs) x)(hv:qT k ks vs=some v)(bg:∀z k,am U s.heap v z->Q z {s with toks:=k}):tS X s x (.int k t) Q:=by
 refine ON (hx.inv) λa es m n7 u J g nd hd=> ?_;subst n7;refine qE (JM X.prog X.w hd) λys hp hk aL hl=> ?_
 have hD:=WD X.prog X.w (U:=U) g hk hp hl nd
 exact aB (WC aL hv) λz hz wm=>⟨_,_,hD.typeIs,slot_dict_getitem.lookup,λJ A hr=>wpAny_getItem_of (knd:=intKind X.prog X.w) (k:=k) (Dm _ _ k t) hD.mapOf hz (bg z _ wm)⟩
theorem ahE{k:Int}(h:0≤k):(k.toNat:Int)=k:=tI h
theorem WE{vs v k x t}(sr:rB U s.heap vs x)(h0:0≤k)(hk:k<2^40)(hv:vs[k.toNat]? =some v)(bg:∀z k,am U s.heap v z->Q z {s with toks:=k}):tS X s x (.int k t) Q:=by
 rcases sr with @⟨a,ys,aL,hl⟩ | @⟨a,ys,aL,hl⟩
 ·obtain ⟨z,hz,wm⟩:=aL.get hv
  have bx:=(dr.mp hz).1
  exact ⟨_,_,hl.typeIs,WF.lookup,λJ A hr=>wpAny_getItem_list hl h0 (yQ hk (by decide)) (x:=z) (pG.trans hz) (bg z _ wm)⟩
 ·obtain ⟨z,hz,wm⟩:=aL.get hv
  have bx:=(dr.mp hz).1
  exact ⟨_,_,hl.typeIs,F.slot_tuple_getitem.lookup,λJ A hr=>ahF hl (j:=k.toNat) (x:=z) (ic (by decide) h0) (yQ hk (by decide)) (ahG h0 (aa fE ((JQ h0).mp bx))) (pG.trans hz) (bg z _ wm)⟩
theorem WG{k:Int}(h:px k vs=some v):0≤k/\k<2^40/\vs[k.toNat]? =some v:=by
 cases k with
 | negSucc=>exact nn h
 | ofNat k =>
  obtain ⟨q,h⟩:=mQ.inv h;exact ⟨eh k,il.mpr (sO q),h⟩
theorem JR{o i}{κ s x y}(rel:Rel X L ae st κ s)(h:qV o i st K)(hx:am (aj st.σ κ) s.heap o x)(hy:am (aj st.σ κ) s.heap i y):tS X s x y (Post X L ae st.σ κ s.heap am K):=by
 refine fP.of (C:=λi=>am (aj st.σ κ) s.heap i y->tS X s x y (Post X L ae st.σ κ s.heap am K)) h (λk h hy=> ?_) hy;refine iE hy.inv λt a0=> ?_;subst a0;refine aB (bB.ex h) λv e hK=> ?_
 have seq:(eV st.σ o).bind (px k)=some v->tS X s x (.int k t) (Post X L ae st.σ κ s.heap am K):=λh=>by
  exact aB (cQ.mp h) λvs hs h=>o4 (WG h) λh0 h1 hv=>WE (zl rel.g hs hx) h0 h1 hv λz J hz=> .same rel rfl rfl rfl hz hK
 rcases o with ⟨⟩<;>first | exact seq e | skip
 exact get_dict hx e λz J hz=> .same rel rfl rfl rfl hz hK
theorem WH{o i:Value}{C:Sem Value->Prop}(h:∀vs,C (operate vs (getItem o i))):C (subscripted e false o i):=by
 rcases e with ⟨⟩<;>first | exact h _ | skip
 rcases step with _ | _<;>exact h _
theorem tail_any{A E}{e1 e2:Expr}{o i:Value}{T id:String}(hT:s.TypeIs o T)(hl:typeLookup (.type T) "__getitem__" =pure (some (.builtin id)))(h:wpAny X.M A (getItem o i) Q E s):wpAny X.M A (subscriptTail e1 e2 o i) Q E s:=by
 unfold subscriptTail;refine au (aa (getitemInPython_of_ne hT.not_modules) ?_);refine bD (λq=>gb hT hl q) (aU ?_);refine au (WH (C:=λm=>wpAny X.M A m _ E s) λvs=> ?_);exact wpAny_operateT (JS h (λr cD mM=>au (PO (aU mM))) λJ J x=>x)
theorem WI{o i}{κ s x y}{e1 e2:Expr}(rel:Rel X L ae st κ s)(h:qV o i st K)(hx:am (aj st.σ κ) s.heap o x)(hy:am (aj st.σ κ) s.heap i y):cK X n L ae st κ s (subscriptTail e1 e2 x y) am K:=by
 obtain ⟨T,id,hT,hl,h⟩:=JR rel h hx hy;exact λA hr=>tail_any hT hl (h _ A hr)
end
end
end
section
variable {C dx:Addr}{name:Str}
section
variable{U:Addr->Prop}{h:Heap}
theorem gv.ind{P:List (Str×ab)->List DictEntry->Prop}(nil:P [] [])(cons:∀{x v hs t y fs es},am U h v y->gv U h fs es->P fs es->P ((x,v)::fs) (⟨hs, .str x t,y⟩::es)){fs es}(r:gv U h fs es):P fs es :=
 r.rec (motive:=λi J=>i.rec (λJ J=>True) (λJ J=>True) P λJ J J=>True) (λJ=>⟨⟩) (λJ J=>⟨⟩) (λJ J=>⟨⟩) (λJ J J J=>⟨⟩) (λJ J J J=>⟨⟩) (λJ J J J J J=>⟨⟩) (λJ J J J J J=>⟨⟩) (λJ J J J=>⟨⟩) ⟨⟩ (λJ J J J=>⟨⟩) nil (λa b J d=>cons a b d) ⟨⟩ λJ J J J=>⟨⟩
theorem JT(x:Str)(t):(zq x t).isStr x=true:=by simp [WJ]
theorem Dn{y:Str}(t)(h:¬ x=y):(zq y t).isStr x=false:=by simpa [WJ] using iM h
theorem WK{es:List DictEntry}(r:gv U h fs es):dR x fs=some v->∃e,es.find? (λz=>z.key.isStr x)=some e/\am U h v e.val:=by
 refine r.ind (P:=λfs es=>dR x fs=some v->∃e,es.find? (λz=>z.key.isStr x)=some e/\am U h v e.val) nn λ{y w hs t z fs es} a _ ih q=> ?_
 by_cases kq:x=y
 ·cases aM ((if_pos kq).symm.trans q);exact ⟨⟨hs, .str y t,z⟩,JN (p:=λe:DictEntry=>e.key.isStr x) (a:=⟨hs, .str y t,z⟩) (ao kq (JT x t)),a⟩
 ·exact aB (ih ((if_neg kq).symm.trans q)) λe he r=>⟨e,(JO (p:=λe:DictEntry=>e.key.isStr x) λz=>ff ((Dn t kq).symm.trans z)).trans he,r⟩
theorem JU{es:List DictEntry}(r:gv U h fs es):es.any (λz=>z.refKey)=false:=r.ind (P:=λJ es=>es.any (λz=>z.refKey)=false) rfl λJ J e=>e
theorem WL{es:List DictEntry}(r:gv U h fs es):es.length=fs.length:=r.ind (P:=λfs es=>es.length=fs.length) rfl λJ J e=>congrArg (λz=>z +1) e
theorem WM{hs:Int}{t:Tok}(hv:am U h v y){es:List DictEntry}(r:gv U h fs es):gv U h (nR x v fs) (putL x hs (.str x t) y es):=by
 refine r.ind (P:=λfs es=>gv U h (nR x v fs) (putL x hs (.str x t) y es)) (.uS hv .xW) λ{z w ik t' z' fs es} a b ih=> ?_
 by_cases kq:x=z
 ·refine aa GR ?_;rewrite [putL];refine aa (if_pos kq) (aa (if_pos (ao kq (JT x t'))) ?_);exact .uS hv b
 ·refine aa GR ?_;rewrite [putL];refine aa (if_neg kq) (aa (if_neg λz=>ff ((Dn t' kq).symm.trans z)) ?_);exact .uS a ih
theorem WN{es:List DictEntry}(r:gv U h fs es):(getL x es).isSome=true:=by
 unfold getL;refine aa (JU r) ?_;generalize es.find? _=o;rcases o with _ | _<;>rfl
end
theorem WO{C' d d':Addr}(h:some (instObj C d)=some (instObj C' d')):d=d':=by
 injection h with g1;injection g1 with _ g1 _;injection g1
theorem handed{U h}(ho:handOk v=true)(r:am U h v y):handedIn y=true :=
 r.casesOn (motive:=λi J=>i.rec (λv y=>handOk v=true->handedIn y=true) (λJ J=>True) (λJ J=>True) λJ J J=>True) (λv=>by rcases v with ⟨⟩<;>first | exact λJ=>rfl | exact λh=>ff h) (λJ J J=>rfl) (λJ J J=>rfl) (λJ J J J=>rfl) (λJ J J J=>rfl) (λJ J J J J J=>rfl) (λJ J J J J J=>rfl) (λJ J J J J=>rfl) ⟨⟩ (λJ J=>⟨⟩) ⟨⟩ (λJ J=>⟨⟩) ⟨⟩ (λJ J=>⟨⟩) ho
section
variable{X:Cx}{n:Nat}{L:Addr}{ae:List Loc}
theorem WP{A E}{K:eD}{x:Addr}{es:List DictEntry}{v:Value}{expr:Bool}(ll:K.In s.heap)(hx:s.heap.get? x=some (instObj C dx))(hd:s.heap.get? dx=some (dictOf es m))(FF:vv K C name)
  (hl:getL name es=some (some v)) (hv:handedIn v=true) (h:Q v {s with toks:=s.toks+1}):wpAny X.M A (getAttr (.ref x) name expr) Q E s:=by
 exact aB (FF.find) λattr ha hn=>get_value ll (C:=C) (od:=some (dictOf es m)) ⟨hx,rfl,rfl,hd⟩ (JV FF.get).1 (findObj_own FF.dict ha hn hl) hv h
theorem JW(ok:eY X){A E}{σ κ}{C a d es m f v fs}(G:bk X σ κ s)(hc:mP C f=true)(hh:handOk v=true)(e:s.heap.get? a=some (instObj C d))(ed:s.heap.get? d=some (dictOf es m))(r:gv (aj σ κ) s.heap fs es)(h:dR f fs=some v)
  (bg:∀y k,am (aj σ κ) s.heap v y->Q y {s with toks:=k}):wpAny X.M A (getAttr (.ref a) f true) Q E s:=by
 exact aB (WK r h) λen he hr=>WP (ok.K.keeps G.keep) e ed (ok.cls C f hc) (by unfold getL;exact aa he rfl) (handed hh hr) (bg _ _ hr)
theorem WQ(ok:eY X){o v}{κ s x}{f:Str}(rel:Rel X L ae st κ s)(h:lP st.σ o f=some v)(ee:attrOk st.σ o f v=true)(hK:K v st)(hx:am (aj st.σ κ) s.heap o x):cK X n L ae st κ s (getAttr x f true) am K:=by
 refine dP (bR.mp ee) λhc hh=> ?_
 have bg:∀y k,am (aj st.σ κ) s.heap v y->Post X L ae st.σ κ s.heap am K y {s with toks:=k}:=λy k r=> .same rel rfl rfl rfl r hK
 rcases o with v | _ | _ | _ | _ | _ | _ | _<;>first | exact nn h | skip
 ·rcases v with ⟨⟩<;>first | exact nn h | skip
  cases hx.bQ
  have own:=rel.g.own a
  replace h:(match st.σ a with | some (.inst _ fs)=>dR f fs | _=>none)=some _:=h;replace hc:(match st.σ a with | some (.inst C _)=>some C | _=>none).any (λz=>mP z f)=true:=hc;generalize st.σ a=o at own h hc
  rcases o with _ | o
  ·exact nn h
  rcases o with ⟨⟩<;>first | exact nn h | skip
  exact qF (own _ rfl) λd es m e ed J r=>λA J=>JW ok rel.g hc hh e ed r h bg
 ·refine Gb (hx.inv) λa d es n wj u ud e ed r=> ?_;subst wj;exact λA J=>JW ok rel.g hc hh e ed r h bg
theorem WR{es:List DictEntry}(h:(getL name es).isSome=true):(!es.toArray.any (λz=>z.key.isStr name)&&es.toArray.any (λz=>z.refKey))=false:=by
 refine aH JK JK ?_;unfold getL at h
 by_cases q:es.any (λz=>z.refKey)=true
 ·rw [q] at h
  revert h
  generalize e:es.find? _=o;rcases o with _ | en
  ·exact ff
  ·rw [TK.mpr ⟨en,WS e,List.find?_some e⟩];exact λJ=>rfl
 ·exact aa ((Vd _).mp q) (aa (Bool.and_false ..) rfl)
theorem WT{A}{K:eD}{x:Addr}{es:List DictEntry}{tk:Tok}{v:Value}(ll:K.In s.heap)(hx:s.heap.get? x=some (instObj C dx))(hd:s.heap.get? dx=some (dictOf es m))(FF:vv K C name)
  (hl:(getL name es).isSome=true) (Dp:∀hs k,(putL name hs k v es).length≤1001)
  (h:∀hs t h' tk,iI dx s.heap h'->h'.get? dx=some (dictOf (putL name hs (.str name t) v es) (putN name es m))->R (.ok (.ret .none)) {s with heap:=h',toks:=tk}) :
  codeAny X.M A (.call (.builtin "object.__setattr__") ⟨[.ref x, .str name tk,v],[]⟩) R s:=by
 refine osa_open ll (show InstAt s.heap x (instObj C dx) C (some (dictOf es m)) from ⟨hx,rfl,rfl,hd⟩) FF.over FF.Sn λb=>aB (any_some FF.dict) λcd hc fF=> ?_;refine au (aU (au (au (wpAny_loadPart hx (au ((looks_clsIn ll hc).here ?_))))));refine aa fF (aU (a:=some dx) (au (aU (au ?_))));refine au (au (PD (aU (au (wpAny_mkText (au (wpAny_loadPart hd ?_)))))));dsimp only;refine aa (aRefKeyMayBeTheName_at ..) (aa (WR hl) ?_)
 have JX:=putName_dict name (zr X.w.params name) (.str name s.toks) v es m
 refine wpAny_updatePart hd ?_
 have D':(s.heap.update dx (WU name (zr X.w.params name) (.str name s.toks) v)).get? dx=some (dictOf (putL name (zr X.w.params name) (.str name s.toks) v es) (putN name es m)):=by
  have:=vy (WU name (zr X.w.params name) (.str name s.toks) v) hd (congrArg _ JX)
  rw [JX] at this
  exact this
 refine au (WV D' (pastItsLine_dict (by refine aH fE Ca ?_;have:=Dp (zr X.w.params name) (.str name s.toks);exact ag this (nb rfl))) ?_);exact aU (h _ _ _ _ (mY ..) D')
theorem WW{A E}{K:eD}{x:Addr}{es:List DictEntry}{v:Value}{Q:Unit->al->Prop}(ll:K.In s.heap)(hx:s.heap.get? x=some (instObj C dx))(hd:s.heap.get? dx=some (dictOf es m))(FF:vv K C name)
  (hl:(getL name es).isSome=true) (Dp:∀hs k,(putL name hs k v es).length≤1001)
  (h:∀hs t h' tk,iI dx s.heap h'->h'.get? dx=some (dictOf (putL name hs (.str name t) v es) (putN name es m))->Q () {s with heap:=h',toks:=tk}):wpAny X.M A (setAttr (.ref x) name v) Q E s :=
 set_plain ll (od:=some (dictOf es m)) ⟨hx,rfl,rfl,hd⟩ FF.set (WT (s:={s with toks:=s.toks+1}) ll hx hd FF hl Dp h)
theorem WX(name:Str)(hs:Int)(k v:Value)(es:List DictEntry):(putL name hs k v es).length≤es.length+1:=by
 induction es with
 | nil=>exact cb _
 | cons e r ih =>
  rw [putL]
  by_cases q:e.key.isStr name=true
  ·exact aa (if_pos q) (l6 _)
  ·exact aa (if_neg q) (fO ih)
theorem bk.change{σ κ}{d:Addr}{o':d8}(G:bk X σ κ s)(ho:σ a=some o)(hd:d=a∨κ d= .dict a)(hk:∀b ob,b≠d->s.heap.get? b=some ob->s'.heap.get? b=some ob)(bx:∃ob,s'.heap.get? d=some ob)
  (jn:c7 (aj σ κ) s.heap (aj (σ.set a o') κ) s'.heap->pi (aj (σ.set a o') κ) κ s'.heap a o') (WY:∀d' C fs,κ d'= .dict a->s.heap.get? a=some (instObj C d')->o= .inst C fs->∃zt,o'= .inst C zt/\s'.heap.get? a=some (instObj C d')) (tT:s'.os=s.os) (hg:s'.gens=s.gens) :
  bk X (σ.set a o') κ s'/\be (λJ=>False) σ κ s.heap (σ.set a o') κ s'.heap:=by
 have pQ:=G.excl a λq=>nn (q.symm.trans ho)
 have nd:∀b,b≠a->κ b≠ .dict a->b≠d:=λb q h e=>hd.elim (λz=>q (e.trans z)) λz=>h (aa e z)
 have JY:∀b L,κ b= .frame L->b≠d:=λb L e=>nd b (λq=>bW (e.symm.trans (aa q pQ))) λq=>bW (e.symm.trans q)
 obtain ⟨S,G'⟩:=G.u7 (s':=s') (σ':=σ.set a o') (κ':=κ) (ex:=λb=>b=a∨b=d) (λb e u=>e.elim (λe=>nn (u.1.symm.trans (aa e ho))) λe=>hd.elim (λz=>nn (u.1.symm.trans (aa (e.trans z) ho))) λz=>bW (u.2.symm.trans (aa e z)))
  (λb ob J q e=>⟨mX λz=>q (.inl z),rfl,hk b ob (λz=>q (.inr z)) e⟩)
  (λS=>G.tabs.bb S λt ht ob e=>hk _ ob (nd _ (λq=>bW ((G.tab t ht).symm.trans (aa q pQ))) λq=>bW ((G.tab t ht).symm.trans q)) e)
  G.tab
  (λS b ob e=>(WZ (b=a)).elim (λq=> .inr (by subst q;cases yE.symm.trans e;exact ⟨pQ,jn S⟩)) λq=>by
   have e:=(mX q).symm.trans e
   have rm:=G.excl b λz=>nn (z.symm.trans e)
   exact .inl ⟨e,λz=>z.elim q (nd b q λz=>bW (rm.symm.trans z)),λd' h z=>z.elim (λz=>bW (pQ.symm.trans (ao z h))) (nd d' (λz=>bW (pQ.symm.trans (ao z h))) λy=>q (Tag.dict.inj (h.symm.trans y)))⟩)
  (λd' b h=>by
   refine jL (G.dict d' b h) λC fs z g=> ?_
   have rm:=G.excl b λy=>nn (y.symm.trans z)
   by_cases q:b=a
   ·subst q;refine aB (WY d' C fs h g (aM (ho.symm.trans z))) λzt a0 g'=> ?_;subst a0;exact .inr ⟨C,zt,yE,g'⟩
   ·exact .inl ⟨h,λz=>z.elim q (nd b q λz=>bW (rm.symm.trans z))⟩)
  (λb hn=>(WZ (b=d)).elim (λq=>aa q bx) λq=>(show ∀b,b≠d->(∃ob,s.heap.get? b=some ob)->∃ob,s'.heap.get? b=some ob from λb q h=>iE h λob e=>⟨ob,hk b ob q e⟩) b q (G.lt b λu=>hn ⟨(mX λz=>nn (u.1.symm.trans (z▸ho))).trans u.1,u.2⟩))
  G.fr tT hg
 exact ⟨G',S,λb ob L e J g=>⟨e,hk b ob (JY b L e) g⟩,λb ob L e g=>⟨.inl e,ob,hk b ob (JY b L e) g⟩⟩
theorem W0(ok:eY X){o v}{K:Unit->St->Prop}{κ s x y}{f:Str}(rel:Rel X L ae st κ s)(h:tv o f v st (K ()))(hx:am (aj st.σ κ) s.heap o x)(hy:am (aj st.σ κ) s.heap v y):cK X n L ae st κ s (setAttr x f y) hH K:=by
 obtain ⟨a,C,fs,rfl,fu,⟨hf,aR⟩,hK⟩:=h;cases hx.bQ;refine qF (rel.g.own a _ fu) λd es m e ed jp r=> ?_;intro A hr;refine WW (ok.K.keeps rel.g.keep) e ed (ok.cls C f hf) (WN r) (λhs k=>ag (WX _ _ _ _ _) (aa (WL r) (ag (fO aR) (nb rfl)))) λhs t h' tk wo fF=> ?_
 have JZ:=(wo.2 a (λq=>bW ((rel.g.excl a λz=>nn (z.symm.trans fu)).symm.trans ((congrArg κ q).trans jp)))).trans e
 obtain ⟨G',ev⟩:=rel.g.change (s':={s with heap:=h',toks:=tk}) (o':= .inst C (nR f v fs)) fu (.inr jp) (λb ob q g=>(wo.2 b q).trans g) ⟨_,fF⟩ (λS=>⟨d,_,_,JZ,fF,jp,(WM hy r).mono S⟩)
  (λd' C' zt ahH g1 z=>by
   cases z;refine aa (show d'=d from (WO (g1.symm.trans e))) ?_;exact ⟨_,rfl,JZ⟩) rfl rfl
 exact .op rel G' ev trivial hK
end
end
section
variable {e1:Expr}{hi lo:Option ab}{sa sb:Option Expr}{u:Value}
section
variable{X:Cx}{n:Nat}{L:Addr}{ae:List Loc}
theorem VR.W1{U h}(r:aN U h vs ys)(hv:am U h v y):aN U h (vs.set k v) (ys.toArray.setIfInBounds k y).toList:=by
 have:=r.set (i:=k) hv
 simpa using this
theorem set_own{w:cO}{l:Addr}{items:Array Value}{k:Int}{t:Tok}{v:Value}{Q:Unit->al->Prop}(tU:gH s.heap l items)
  (h0:0≤k) (zu:k<2^63) (hn:k<items.size) (hQ:∀h',gH h' l (items.setIfInBounds k.toNat v)->iI l s.heap h'->Q () {s with heap:=h'}) :
  wpAny (model prog w) A (setItem (.ref l) (.int k t) v) Q E s:=by
 have hl:=tU.list
 obtain ⟨o,ho,hc,ne,hd⟩:=id hl;unfold setItem;refine kt (au (J0 hl.typeIs (by decide) ?_));refine au (wpAny_callSpecial?_slot (name:=bd "__setitem__") hl.typeIs Dq
  (n0 Dq hl.typeIs W2 ?_ (W3 _ _ _)))
 refine (?_:wpAny _ _ (W4 (.int k t)>>=_) _ _ s);refine au (wpAny_listSubscript_int (fitsIndex_of h0 zu) ?_);clear zu;obtain ⟨j,rfl⟩:=Int.eq_ofNat_of_zero_le h0
 have hj:j<items.size:=il.mp hn
 have on:items[j]? =some items[j]:=SX hj
 refine (?_:wpAny _ _ ((seqItemAt l j>>=λr=>pure (r.map (λz=>(j,z))))>>=_) _ _ s);refine au (au (wpAny_seqItemAt ho hd (aU ?_)));refine aa on (?_:wpAny _ _ (setSeqItemAt l j v>>=_) _ _ s);refine au (wpAny_setSeqItemAt ho hd ?_)
 have J1:gH (s.heap.update l (yF (λz=>z.setIfInBounds j v))) l (items.setIfInBounds j v):=B9 tU rfl
 first
  | exact au (aU (aU ⟨.none,rfl,aU (hQ _ J1 (mY ..))⟩))
  | exact aU ⟨.none,rfl,aU (hQ _ J1 (mY ..))⟩
theorem W5{o i v}{K:Unit->St->Prop}{κ s x y z}(rel:Rel X L ae st κ s)(h:py o i v st (K ()))(hx:am (aj st.σ κ) s.heap o x)(hy:am (aj st.σ κ) s.heap i y)(hz:am (aj st.σ κ) s.heap v z):cK X n L ae st κ s (setItem x y z) hH K:=by
 obtain ⟨a,vs,k,rfl,fu,rfl,h0,bx,hK⟩:=h;cases hx.bQ;obtain ⟨t,rfl⟩:=hy.inv;obtain ⟨ys,tU,aL⟩:=rel.g.own a _ fu
 have aR:=aL.length
 refine λA hr=>set_own tU h0.1 (yQ h0.2 (by decide)) (aa fE ((JQ h0.1).mp (ao aR bx))) λh' eE hs=> ?_;obtain ⟨G',ev⟩:=rel.g.change (s':={s with heap:=h'}) (d:=a) (o':= .list (vs.set k.toNat v)) fu (.inl rfl) (λb ob q g=>(hs.2 b q).trans g) (aB eE.list λob g J=>⟨ob,g⟩) (λS=>⟨(ys.toArray.setIfInBounds k.toNat z).toList,eE,(aL.W1 hz).mono S⟩)
  (λJ J J J J=>d8.noConfusion) rfl rfl
 exact .op rel G' ev trivial hK
theorem J2{i:Int}{l:Nat}(h:(if 0≤i/\i<2^40 then some i.toNat else none)=some l):¬ i<0/\i.toNat=l:=by
 by_cases q:0≤i/\i<2^40
 ·exact ⟨jU.mpr q.1,aM ((if_pos q).symm.trans h)⟩
 ·exact nn ((if_neg q).symm.trans h)
theorem J3{i:Int}(h:¬ i<0)(m:Nat):pV (some i) m=min i.toNat m/\pW (some i) m=min i.toNat m:=by
 constructor<;>(first | unfold pV | unfold pW)<;>dsimp only<;>(exact aa (if_neg h) rfl)
theorem wq{U h}{l:Nat}(hl:lT lo=some l)(r:fG U h lo y):∃q:Option Int,ju y q/\∀m,pV q m=min l m:=by
 rcases lo with _ | v
 ·cases aM hl;cases r;exact ⟨none, .none,λm=>(Dr m).symm⟩
 ·rcases v with ⟨⟩<;>first | exact nn hl | skip
  obtain ⟨t,rfl⟩:=VR.int_inv r;obtain ⟨h,rfl⟩:=J2 hl;exact ⟨some _, .int _ _,λm=>(J3 h m).1⟩
theorem wu{U h}{l:Nat}(hl:lV m hi=some l)(r:fG U h hi y):∃q:Option Int,ju y q/\pW q m=min l m:=by
 rcases hi with _ | v
 ·cases aM hl;cases r;exact ⟨none, .none,(rA _).symm⟩
 ·rcases v with ⟨⟩<;>first | exact nn hl | skip
  obtain ⟨t,rfl⟩:=VR.int_inv r;obtain ⟨h,rfl⟩:=J2 hl;exact ⟨some _, .int _ _,(J3 h _).2⟩
theorem Ds(vs:List α)(l h:Nat):(vs.drop (min l vs.length)).take (min h vs.length - min l vs.length)=(vs.take h).drop l:=by
 refine aa tV ?_
 by_cases hl:l≤vs.length
 ·refine aa (gO hl) ?_
  by_cases hh:h≤vs.length
  ·exact aa (gO hh) rfl
  ·exact aa (pX (Dt hh)) (aa (q8 (by simp)) (aa (q8 (by simp;exact ag (Dt hh) (Nat.le_add_of_sub_le (cb _)))) rfl))
 ·have e1:min l vs.length=vs.length:=pX (Dt hl)
  refine aa e1 (aa (tF (cb _)) (aa (tF (Dt hl)) ?_));simp
theorem W6{A E}{d:Addr}{l:Value}{p:Pos}{qa qb:Option Int}(hl:s.heap.IsList a ys.toArray)(hd:s.heap.get? d=some {cls:= .type "slice",data:= .fields #[l,u, .none]})
  (pl:ju l qa) (pu:ju u qb) (bJ:ys.length≤sizeLine) (h:Q (.ref s.heap.objs.size) {s with heap:=s.heap.push {cls:= .type "list",data:= .seq (kms_pick ys qa qb).toArray}}) :
  wpAny X.M A (subscriptTail e1 (.Slice sa sb none p) (.ref a) (.ref d)) Q E s:=by
 refine tail_any hl.typeIs WF.lookup (wpAny_getItem_list_slice hl ⟨_,hd,rfl,rfl⟩ pl pu .none (by simp) ?_ (by simpa using bJ));refine aa (kms_pick_eq ..) ?_
 simpa using h
theorem ahI{h:Heap}{p q:Array Value}(x:h.IsTuple a p)(y:h.IsList a q):False:=by
 obtain ⟨o1,g1,c1,_⟩:=x;obtain ⟨o2,g2,c2,_⟩:=y;cases aM (g1.symm.trans g2);exact absurd (c1.symm.trans c2) (by decide)
theorem W7{σ κ}{o:ab}{x:Value}(G:bk X σ κ s)(hs:jR σ o=some vs)(hx:am (aj σ κ) s.heap o x):∃a ys,x= .ref a/\aN (aj σ κ) s.heap vs ys/\s.heap.IsList a ys.toArray:=by
 refine jR.of (C:=λv=>am (aj σ κ) s.heap v x->∃a ys,x= .ref a/\aN (aj σ κ) s.heap vs ys/\s.heap.IsList a ys.toArray) hs (λr=> ?_) (λa q r=> ?_) hx
 ·obtain ⟨a,ys,rfl,_,l,h⟩:=r.inv;exact ⟨a,ys,rfl,h,l⟩
 ·cases r.bQ;obtain ⟨items,hl,aL⟩:=G.own _ _ q;exact ⟨a,items,rfl,aL,hl.list⟩
theorem W8{o}{κ s x d}{l:Value}{p:Pos}(rel:Rel X L ae st κ s){a b:Nat}(hs:jR st.σ o=some vs)(ha:lT lo=some a)(hb:lV vs.length hi=some b)(aR:dQ vs.length)(hK:fR ((vs.take b).drop a) st K)
  (hx:am (aj st.σ κ) s.heap o x) (fZ:fG (aj st.σ κ) s.heap lo l) (iW:fG (aj st.σ κ) s.heap hi u) (hd:s.heap.get? d=some {cls:= .type "slice",data:= .fields #[l,u, .none]}) :
  cK X n L ae st κ s (subscriptTail e1 (.Slice sa sb none p) x (.ref d)) am K:=by
 obtain ⟨q,ys,rfl,aL,hl⟩:=W7 rel.g hs hx;obtain ⟨qa,pa,ea⟩:=wq ha fZ;obtain ⟨qb,pb,eb⟩:=wu hb iW
 have Du:=aL.length
 exact λA hr=>W6 hl hd pa pb (ao Du (tD aR)) (aa (show kms_pick ys qa qb=(ys.take b).drop a by unfold kms_pick;rw [ea,<-Du,eb,Du,Ds]) (HO rel ((aL.take b).drop a) hK rfl rfl rfl))
theorem W9{κ s x d}{l:Value}{p:Pos}(rel:Rel X L ae st κ s){a c:Nat}(ha:lT lo=some a)(hb:lV b.length hi=some c)(aR:dQ b.length)(hK:K (.bytes ((b.take c).drop a)) st)
  (hx:am (aj st.σ κ) s.heap (.bytes b) x) (fZ:fG (aj st.σ κ) s.heap lo l) (iW:fG (aj st.σ κ) s.heap hi u) (hd:s.heap.get? d=some {cls:= .type "slice",data:= .fields #[l,u, .none]}) :
  cK X n L ae st κ s (subscriptTail e1 (.Slice sa sb none p) x (.ref d)) am K:=by
 obtain ⟨t,rfl⟩:=hx.mI;obtain ⟨qa,pa,ea⟩:=wq ha fZ;obtain ⟨qb,pb,eb⟩:=wu hb iW
 have e:W' b.toArray qa qb=((b.take c).drop a).toArray:=by
  unfold W' J4;refine aa (J5 ..) ?_;simp only [sliceRange_one,pick_run]
  have:=ea b.toArray.size
  exact aa this (aa fE (aa eb (aa (Ds ..) rfl)))
 refine λA hr=>tail_any (lj s _ t) Xa.lookup (getItem_meets (lj _ _ _) (by decide) Xa FB.entry_bytes_getitem (FB.args_bytes_getitem_2 _ _) (ahJ b.toArray t d pa pb) ⟨⟨_,hd,rfl,rfl⟩, ?_,λt' k=> ?_⟩)
 ·refine aa e (aa fE ?_)
  have:=tD aR
  simp;exact ag (jW ..) (ag this (b6 ..))
 ·exact aa e (.same rel rfl rfl rfl (.bytes _ _) hK)
end
end
theorem Dv:mroOf (.type "bytearray")=pure [.type "bytearray", .type "object"]:=by refine aa (mroOf_type ..) ?_;kernel_rfl
theorem Xb:typeLookup (.type "bytearray") "__new__" =pure (some (.builtin "bytearray.__new__")):=by refine aH (jv ..) jw ?_;kernel_rfl
theorem wv:Slot "bytearray" "__init__" "bytearray.__init__" :=
 .of (owner:= "bytearray") (n:= "__init__") (by refine aH (jv ..) jw ?_;kernel_rfl) (by decide +kernel) (by decide +kernel) (by decide +kernel)
  (by first | exact .inl (by decide +kernel) | exact .inr (by decide +kernel)) (by refine aa (rC ..) ?_;kernel_rfl)
theorem ww:isSubtype (.type "bytearray") (.type "bytearray")=pure true:=by refine aa (rC ..) ?_;kernel_rfl
theorem J6:TypeCalled "bytearray" "bytearray.__new__" "bytearray.__init__" :=
 ⟨by decide +kernel,by decide +kernel,⟨_,_,Dv⟩,madeBy_type Dv Xb (by decide +kernel),by decide +kernel,ww,wv⟩
theorem Xc(a:Value):checkTypeCall "bytearray" ⟨[a],[]⟩=pure ():=by kernel_rfl
theorem Xd(a:Value):checkBuiltinCall "bytearray.__new__" ⟨[.type "bytearray",a],[]⟩=pure ():=by kernel_rfl
theorem Xe:entryFor table "bytearray.__new__" =some fY.«list.__new__» :=entryFor_alias (id':= "list.__new__") (by kernel_rfl) (by decide +kernel) (by decide +kernel) (by kernel_rfl)
theorem Xf:entryFor table "bytearray.__init__" =some fY.«bytearray.__init__» :=zv (by kernel_rfl)
theorem J7:plainId "bytearray.__new__" =true:=by decide +kernel
theorem zw:ahK.lookup (String.ofList ['y','a','r','r','a','e','t','y','b'].reverse)=some ahL:=by kernel_rfl
theorem Xg(a b:Value):argsOk "bytearray.__init__" ⟨[a,b],[]⟩:=by
 unfold argsOk;rw [signature?_of (id:= "bytearray.__init__") (n:= ['_','_','t','i','n','i','_','_']) (o:= ['y','a','r','r','a','e','t','y','b']) (by kernel_rfl) zw];kernel_rfl
theorem Xh:("bytearray.__new__".splitOn ".__new__").headD "" = "bytearray" :=by simp +decide [String.splitOn,String.splitOnAux]
section
variable{prog:dN}{w:cO}{A:cA}{E:Value->al->Prop}{s:al}
theorem Xi(a:Value){Q₁:Value->al->Prop}(h:Q₁ (.ref s.heap.objs.size) {s with heap:=s.heap.push {cls:= .type "bytearray",data:= .bytearray #[]}}) :
  codeAny (model prog w) A (.call (.builtin "bytearray.__new__") ⟨[.type "bytearray",a],[]⟩) (wants Q₁ E) s:=by
 refine J8 ?_
 show wpAny _ A.in1 (do checkBuiltinCall "bytearray.__new__" ⟨[.type "bytearray",a],[]⟩;again (.builtin "bytearray.__new__" ⟨[.type "bytearray",a],[]⟩)) _ _ s
 refine au (dU (Xd a) (aU ⟨wx J7 _,codeAny_builtin_stack Xe rfl λp st=> ?_⟩));refine aa (wy J7 _) ?_
 have rD:=ww
 have Xj:=Xh
 obtain ⟨hp,g,d,tk,os⟩:=s;simp only [Xj]
 wp_walk
 exact h
end
section
variable {id:String}
theorem J9{a:Args}(h:o6 (.builtin id a)=true):lN.contains id=false:=(l0 _).mp h
theorem ahM{a:Args}(h:o6 (.builtin id a)=true)(hc:lN.contains id=true):False:=by rw [J9 h] at hc;cases hc
theorem wz{x:String}(h:lN.contains id=false)(hx:lN.contains x=true):¬ id=x:=λe=>ka (h.symm.trans ((congrArg lN.contains e).trans hx))
theorem Xk(h:lN.contains id=false):OY.contains id=false:=by
 rw [lN,Xl,List.any_append,vx] at h
 exact aa Xl h.1
theorem Xm{M:Model}{v:Value}{Q:Bool->al->Prop}(h:Q false s):ai M A (ahN v) Q E s:=λΓ p dI hc=>by
 refine (?_:Q (((Γ.code,p)::Γ.below).any _) s);refine aa (show ((Γ.code,p)::Γ.below).any _=false from Dw.mpr λx hx e=>by
  obtain ⟨c,q⟩:=x
  have hk:o6 c=true:=hc _ hx
  clear hx hc;rcases c with _ | ⟨id,⟨pos,kw⟩⟩ | _ | _ | _ | _ | _ | _ | _ | _ | _ | _ | _<;>first | exact ff e | skip
  have h2:=J9 hk
  delta ahO at e
  replace e:=(dif_neg (c:=id= "bytearray.__contains__") (wz h2 (by decide +kernel))).symm.trans e;replace e:=(dif_neg (c:=id= "bytearray.__mod__") (wz h2 (by decide +kernel))).symm.trans e;replace e:=(dif_neg (c:=id= "bytearray.__rmod__") (wz h2 (by decide +kernel))).symm.trans e;replace e:=(dif_neg (c:=id= "_struct.pack_into.held") (wz h2 (by decide +kernel))).symm.trans e;replace e:=(dif_neg (c:=id= "bytearray.find.held") (wz h2 (by decide +kernel))).symm.trans e;rcases pos with _ | ⟨w,r⟩
  ·exact ff e
  ·exact ff ((Xk h2).symm.trans (bR.mp e).2)) ?_
 exact h
end
section
variable {S:Addr}
noncomputable abbrev d5(b:List UInt8):Obj:={cls:= .type "bytearray",data:= .bytearray b.toArray}
theorem Xn:typeLookup (.type "bytearray") "__release_buffer__" =pure (some (.builtin "bytearray.__release_buffer__")):=by refine aH (jv ..) jw ?_;kernel_rfl
theorem Dx:typeLookup (.type "bytearray") "__buffer__" =pure (some (.builtin "bytearray.__buffer__")):=by refine aH (jv ..) jw ?_;kernel_rfl
theorem J':typeLookup (.type "int") "__index__" =pure (some (.builtin "int.__index__")):=by refine aH (jv ..) jw ?_;kernel_rfl
theorem Ka:typeLookup (.type "bytes") "__index__" =pure none:=by refine aH (jv ..) jw ?_;kernel_rfl
theorem Xo(id:String)(v:Value):ahP id "bytearray" ["source","encoding","errors"] [v] []=pure [some v,none,none]:=by kernel_rfl
theorem Kc:("bytearray.__release_buffer__".endsWith ("." ++ "__release_buffer__"))=true/\ "bytearray.__release_buffer__".dropRight ("__release_buffer__".length+1)= "bytearray" :=by decide +kernel
theorem Kd:("bytearray.__buffer__".endsWith ("." ++ "__buffer__"))=true/\ "bytearray.__buffer__".dropRight ("__buffer__".length+1)= "bytearray" :=by decide +kernel
section
variable{M:Model}{A:cA}{E:Value->al->Prop}{s:al}
theorem dV{c:Bool}{a b:Sem α}{Q:α->al->Prop}(hc:c=false)(h:wpAny M A b Q E s):wpAny M A (if c=true then a else b) Q E s:=by subst hc;exact h
theorem jx{c:Bool}{a b:Sem α}{Q:α->al->Prop}(hc:c=true)(h:wpAny M A a Q E s):wpAny M A (if c=true then a else b) Q E s:=by subst hc;exact h
theorem oq{c:Prop} [Decidable c]{a b:Sem α}{Q:α->al->Prop}(hc:¬ c)(h:wpAny M A b Q E s):wpAny M A (if c then a else b) Q E s:=by refine aa (if_neg hc) ?_;exact h
theorem Xp{c:Prop} [Decidable c]{a b:Sem α}{Q:α->al->Prop}(hc:c)(h:wpAny M A a Q E s):wpAny M A (if c then a else b) Q E s:=by refine aa (if_pos hc) ?_;exact h
theorem kA{c:Bool}{a b:Sem α}{Q:α->al->Prop}(hc:c=false)(h:ai M A b Q E s):ai M A (if c=true then a else b) Q E s:=by subst hc;exact h
theorem Xq{c:Bool}{a b:Sem α}{Q:α->al->Prop}(hc:c=true)(h:ai M A a Q E s):ai M A (if c=true then a else b) Q E s:=by subst hc;exact h
theorem gP(hS:s.heap.get? S=some (d5 b)):s.TypeIs (.ref S) "bytearray" :=⟨_,hS,rfl⟩
theorem Kf{Q:Bool->al->Prop}(hS:s.heap.get? S=some (d5 b))(h:Q false s):wpAny M A (Xr (.ref S)) Q E s:=by
 unfold Xr Kg;refine au (au (gb (gP hS) Xn ?_));dsimp only;refine dV (by refine aa Kc.1 ?_;rfl) ?_;exact aa Kc.2 (rx (gP hS) ww (aU h))
theorem Xs{Q:Nat->al->Prop}(hS:s.heap.get? S=some (d5 b))(h:Q 0 s):wpAny M A (Xu (.ref S)) Q E s:=by
 unfold Xu;exact au (qN hS (aU h))
theorem wA{Q:Array UInt8->al->Prop}(hS:s.heap.get? S=some (d5 b))(h:Q b.toArray s):wpAny M A (Kh (.ref S)) Q E s:=by
 unfold Kh ahQ;exact au (au (qN hS (aU (aU h))))
theorem zx{c:List UInt8}{f:Array UInt8->Array UInt8}{Q:Unit->al->Prop}(hS:s.heap.get? S=some (d5 b))(hf:f b.toArray=c.toArray)(hz:c.length≤sizeLine)
  (h:∀h',h'.get? S=some (d5 c)->iI S s.heap h'->Q () {s with heap:=h'}):wpAny M A (ahR (.ref S) f) Q E s:=by
 refine (?_:wpAny _ _ (updateBytearray S f) _ _ _);unfold updateBytearray;refine au (qN hS ?_);refine (?_:wpAny _ _ (update S (Ki f)>>=λJ=>lookBehind S) _ _ _);refine au (wpAny_update hS ?_)
 have pY:(s.heap.update S (Ki f)).get? S=some (d5 c):=by
  have:=vy (Ki f) hS rfl
  refine aa this (?_:some ({cls:= .type "bytearray",data:= .bytearray (f b.toArray)}:Obj)=_);exact aa hf rfl
 refine WV pY ?_ (h _ pY (mY ..));refine (?_:(if c.toArray.size>sizeLine then some "bytearray:memory" else none)=none);exact aa (if_neg (by rw [fE];exact dA.mpr hz)) rfl
theorem Kj(i:Int)(t:Tok):asStr? (.int i t)=pure none:=rfl
theorem Kk(b:Array UInt8)(t:Tok):asStr? (.bytes b t)=pure none:=rfl
inductive zy:Value->List UInt8->Prop
 | int (i:Int) (t:Tok):0≤i->i≤1000000->zy (.int i t) (cf i.toNat 0)
 | bytes (b:List UInt8) (t:Tok):b.length≤1000000->zy (.bytes b.toArray t) b
theorem fc{n:Nat}(h:n≤1000000):n≤sizeLine:=by refine aa Ca ?_;exact ag h (by decide)
theorem Xv{i:Int}(h0:0≤i)(hn:i≤1000000):(!Builtin.Bytes.fitsIndex i)=false:=by unfold Xw;simp;exact ⟨ic (by decide) h0,m9 hn (by decide)⟩
theorem Xx{n:Nat}(h:n≤1000000):Dy n=false:=by unfold Dy;have:=fc h;simpa using this
theorem Xy{v:Value}(hS:s.heap.get? S=some (d5 []))(hv:zy v b)
  (h:∀h' tk,h'.get? S=some (d5 b)->iI S s.heap h'->Q .none {s with heap:=h',toks:=tk}) :
  ai M A (fY.«bytearray.__init__» ⟨[.ref S,v],[]⟩) (λbg s'=>∃r,bg= .done (.ret r)/\Q r s') E s:=by
 unfold fY.«bytearray.__init__»;refine kS (λq=>Kf hS q) (kA rfl ?_);refine rt (Xo _ _) (rt (a:=()) rfl (rt (a:=()) rfl ?_));refine fB (λq=>aE (Xm (aE (bc (Xs hS (aY q)))))) (kA rfl (bc ?_));refine au (zx hS (c:= []) rfl (by decide) λbM Dz gy=> ?_);cases hv with
 | int i t h0 hn =>
  have hz:=tW.mpr hn
  refine bD (λq=>dU (Kj _ _) q) (dV rfl ?_);refine bD (a:=()) (λq=>aU q) (bD (λq=>gb (T:= "int") rfl J' q) (jx rfl ?_));refine au (DA (dU (rfl:asIndex (.int i t)=pure i) ?_));refine dV (Xv h0 hn) (oq (jU.mpr h0) ?_);refine dV (beq_eq_false_iff_ne.mpr (Int.ne_of_lt (m9 hn (by decide)))) (dV (Xx hz) ?_);refine bD (λq=>jt q) ?_
  by_cases hp:i>0
  ·refine Xp hp (au (zx (c:=cf i.toNat 0) Dz (List.toArray_replicate ..).symm (by refine aa pP ?_;exact fc hz) λcM pY q7=> ?_));exact au (aU (aU ⟨_,rfl,h _ _ pY (gy.trans q7)⟩))
  ·obtain rfl:i=0:=Jy (jU.mp hp) h0;exact oq hp (au (aU (aU ⟨_,rfl,h _ _ Dz gy⟩)))
 | bytes b t hb =>
  refine bD (λq=>dU (Kk _ _) q) (dV rfl ?_);refine bD (a:=()) (λq=>aU q) (bD (λq=>gb (T:= "bytes") rfl Ka q) (dV rfl ?_));refine bD (λq=>dU (Xz) q) (bD (λq=>jt q) ?_);refine au (zx (c:=b) Dz rfl (fc hb) λcM pY q7=> ?_);exact au (aU (aU ⟨_,rfl,h _ _ pY (gy.trans q7)⟩))
end
end
section
variable{prog:dN}{w:cO}{A:cA}{E:Value->al->Prop}{s:al}
theorem DB{id:String}{args:Args}{b:fY}(ee:lN.contains id=false)(hb:entryFor table id=some b)
  (h:ai (model prog w) (A.under (.builtin id args)) (b args) (λbg s'=>match bg with | .done f=>R (.ok f) s' | .again c'=>c'.quiet=true/\di (model prog w) A c' R s') (λe s'=>R (.error e) s') s) :
  di (model prog w) A (.builtin id args) R s:=by
 refine kT (by show (!lN.contains id)=true;refine aa ee ?_;rfl) ?_
 have XA:(model prog w).den (.builtin id args)=b args:=by
  refine (?_:(match entryFor table id with | some b=>b args | none=>unsupported ((withoutEnding? id "#data").getD id))=_);exact aa hb rfl
 exact aa XA h
theorem Kl{id:String}{args:Args}{b:fY}(ee:lN.contains id=false)(hp:plainId id=true)(hb:entryFor table id=some b)
  (h:ai (model prog w) A.in1 (checkBuiltinCall id args) (λJ s1=>ai (model prog w) A.in1 (b args) (λbg s'=>match bg with | .done f=>R (.ok f) s' | .again c'=>c'.quiet=true/\di (model prog w) A c' R s') (λe s'=>R (.error e) s') s1) (λe s'=>R (.error e) s') s) :
  di (model prog w) A (.call (.builtin id) args) R s:=by
 refine kT rfl (?_:ai _ A.in1 (checkBuiltinCall id args>>=λJ=>again (.builtin id args)) _ _ s);refine aE (eS h (λJ s1 h1=>aY ⟨wx hp _,DB ee hb ?_⟩) λJ J x=>x);rw [wy hp];exact h1
theorem Km{v:Value}(hv:zy v b)
  (h:∀h' tk,h'.get? s.heap.objs.size=some (d5 b)->(∀a o,s.heap.get? a=some o->h'.get? a=some o)->Q (.ref s.heap.objs.size) {s with heap:=h',toks:=tk}) :
  ai (model prog w) A (call (.type "bytearray") [v]) Q (λJ J=>False) s:=by
 refine o7 (kT rfl ?_);refine aY ⟨Kn _ (by decide +kernel),DB (by decide +kernel) F.entry_type_call ?_⟩;refine aa (ahS (weight_type_call_type "bytearray" [v] []) rfl) ?_;unfold fY.«type.__call__»;refine kA (by decide +kernel) (kA J6.canCreate ?_);refine aE (uW (Xc v) ?_);refine fB (λq=>uW Dv q) (kA rfl ?_);refine aE (uW J6.made ?_);refine aE (aY ?_);refine aE (cj (o7 (Gn (codeAny_mono (Xi v (E:=λJ J=>False) (Q₁:=λobj aG=>obj= .ref s.heap.objs.size/\aG={s with heap:=s.heap.push (d5 [])}) ⟨rfl,rfl⟩) λr aG hr=> ?_))));rcases r with e | fl
 ·exact hr.elim
 cases fl<;>first | exact hr.elim | skip
 obtain ⟨rfl,rfl⟩:=hr
 have hS:({s with heap:=s.heap.push (d5 [])}:al).heap.get? s.heap.objs.size=some (d5 []):=cV _ rfl
 dsimp only;refine kS (λq=>rx (gP hS) ww q) (kA rfl ?_);refine aE (cj ?_);refine kS (λq=>gb (gP hS) wv.lookup q) ?_;dsimp only;refine aa (wv.bind ..) (cj (aE (aY (aE (o7 ?_)))));refine Kl (by decide +kernel) wv.plain Xf (bc (wv.check _ _ _ _ _ _ _ _ (gP hS) (Xg _ _) ?_));refine eS (Xy (E:=λJ J=>False) hS hv (Q:=λr br=>r= .none/\Q (.ref s.heap.objs.size) br) λh' tk zz hs=>⟨rfl, ?_⟩) ?_ λJ J x=>x.elim
 ·exact h _ _ zz λa o e=>hs.extBut a o (dz (cR e)) (fq _ e)
 ·rintro bg s' ⟨r,rfl,rfl,q⟩
  exact aY (aY q)
end
section
variable {hi:Option Int}{j:Nat}{lo:Option Int}{u:Value}
theorem zA:Slot "bytearray" "__setitem__" "bytearray.__setitem__" :=
 .of (owner:= "bytearray") (n:= "__setitem__") (by refine aH (jv ..) jw ?_;kernel_rfl) (by decide +kernel) (by decide +kernel) (by decide +kernel)
  (by first | exact .inl (by decide +kernel) | exact .inr (by decide +kernel)) (by refine aa (rC ..) ?_;kernel_rfl)
theorem XB:entryFor table "bytearray.__setitem__" =some fY.«bytearray.__setitem__» :=zv (by kernel_rfl)
theorem XC(a b c:Value):argsOk "bytearray.__setitem__" ⟨[a,b,c],[]⟩:=by
 unfold argsOk;rw [signature?_of (id:= "bytearray.__setitem__") (n:= ['_','_','m','e','t','i','t','e','s','_','_']) (o:= ['y','a','r','r','a','e','t','y','b']) (by kernel_rfl) zw];kernel_rfl
theorem Ko:Slot "bytearray" "__getitem__" "bytearray.__getitem__" :=
 .of (owner:= "bytearray") (n:= "__getitem__") (by refine aH (jv ..) jw ?_;kernel_rfl) (by decide +kernel) (by decide +kernel) (by decide +kernel)
  (by first | exact .inl (by decide +kernel) | exact .inr (by decide +kernel)) (by refine aa (rC ..) ?_;kernel_rfl)
theorem XD:entryFor table "bytearray.__getitem__" =some fY.«bytearray.__getitem__» :=zv (by kernel_rfl)
theorem XE(a b:Value):argsOk "bytearray.__getitem__" ⟨[a,b],[]⟩:=by
 unfold argsOk;rw [signature?_of (id:= "bytearray.__getitem__") (n:= ['_','_','m','e','t','i','t','e','g','_','_']) (o:= ['y','a','r','r','a','e','t','y','b']) (by kernel_rfl) zw];kernel_rfl
theorem Kp:Slot "bytearray" "__len__" "bytearray.__len__" :=
 .of (owner:= "bytearray") (n:= "__len__") (by refine aH (jv ..) jw ?_;kernel_rfl) (by decide +kernel) (by decide +kernel) (by decide +kernel)
  (by first | exact .inl (by decide +kernel) | exact .inr (by decide +kernel)) (by refine aa (rC ..) ?_;kernel_rfl)
theorem XF:entryFor table "bytearray.__len__" =some fY.«bytearray.__len__» :=zv (by kernel_rfl)
theorem XG(a:Value):argsOk "bytearray.__len__" ⟨[a],[]⟩:=by
 unfold argsOk;rw [signature?_of (id:= "bytearray.__len__") (n:= ['_','_','n','e','l','_','_']) (o:= ['y','a','r','r','a','e','t','y','b']) (by kernel_rfl) zw];kernel_rfl
theorem XH:isSubtype (.type "bytes") (.type "bytearray")=pure false:=by refine aa (rC ..) ?_;kernel_rfl
theorem XI:isSubtype (.type "bytes") (.type "complex")=pure false:=by refine aa (rC ..) ?_;kernel_rfl
theorem XJ:typeLookup (.type "bytes") "__int__" =pure none:=by refine aH (jv ..) jw ?_;kernel_rfl
theorem XK:typeLookup (.type "bytes") "__float__" =pure none:=by refine aH (jv ..) jw ?_;kernel_rfl
section
variable{prog:dN}{w:cO}{A:cA}{E:Value->al->Prop}{s:al}
theorem DC{d:Addr}{l:Value}{Q:Value×Value×Value->al->Prop}(hd:s.heap.get? d=some {cls:= .type "slice",data:= .fields #[l,u, .none]})(hl:ju l lo)(hu:ju u hi)
  (h:Q (rawPart lo,rawPart hi,rawPart none) s):wpAny (model prog w) A (ahT (.ref d)) Q E s:=by
 refine bD (λq=>gG (x:= .none) hd rfl rfl q) (bD (a:=rawPart none) (s':=s) (λq=> ?_) ?_)
 ·exact aU q
 refine dV rfl (bD (λq=>gG (x:=l) hd rfl rfl q) ?_);refine bD (a:=rawPart lo) (s':=s) (λq=> ?_) ?_
 ·clear hd hu h;cases hl<;>first | (kby_none;exact aU q) | (kby_int;exact aU q) | exact aU q
 refine bD (λq=>gG (x:=u) hd rfl rfl q) (bD (a:=rawPart hi) (s':=s) (λq=> ?_) ?_)
 ·clear hd hl h;cases hu<;>first | (kby_none;exact aU q) | (kby_int;exact aU q) | exact aU q
 exact aU h
theorem DE{xs ys:List α}{i:Nat}(du:i≤j):xs.toArray.extract 0 (i:Int).toNat++ys.toArray++xs.toArray.extract (max (i:Int) j).toNat=(xs.take i++ys++xs.drop j).toArray:=by
 rw [Kq (dT.mpr du),mf,mf,XM,XM,XN,XN,XO,XO,yL,Nat.sub_zero,q8 (l:=xs.drop j) (i:=xs.toArray.size - j) (bS f0)]
theorem XQ{xs ys:List α}{i:Nat}(du:i≤j):(xs.take i++ys++xs.drop j).length≤xs.length+ys.length:=by
 refine aa de (aa de (aa iX (aa f0 (aa (sR ..) ?_))));refine gz ?_ _;rcases wB j xs.length with q | q
 ·exact ag (gz (ag (kB ..) du) _) (bS (lM q))
 ·exact aa (XR q) (jW ..)
theorem XS{c:List α}{i:Nat}(du:i+c.length=j):((c.toArray.size:Int) != max (i:Int) j - i)=false:=by
 subst du;refine aa (Kq (dT.mpr (b6 ..))) (aa (Int.natCast_add ..) (aa (vI ..) (aa (Jw ..) ?_)));exact bne_self_eq_false _
theorem XT{b c:List α}{i:Nat}(du:i+c.length=j)(mh:j≤b.length):b.length=(b.take i++c++b.drop j).length:=by
 exact aa de (aa de (aa iX (aa f0 (aa (gO (ag (du▸b6 ..) mh)) (aa du (aa (lM mh) rfl))))))
theorem Kr{n i:Nat}(ei:pV lo n=i)(ej:pW hi n=j):sliceIndices (rawPart lo) (rawPart hi) (rawPart none) n=pure ((i:Int),(j:Int),1):=by
 exact aa (XU lo hi none n (λe=>nn e)) (aa (J5 ..) (aa ei (aa ej rfl)))
theorem XV{S d:Addr}{c:List UInt8}{t:Tok}{l:Value}{i:Nat}{Q:rE->al->Prop}(hS:s.heap.get? S=some (d5 b))(hd:s.heap.get? d=some {cls:= .type "slice",data:= .fields #[l,u, .none]})
  (hl:ju l lo) (hu:ju u hi) (ei:pV lo b.length=i) (ej:pW hi b.length=j) (du:i+c.length=j) (mh:j≤b.length) (hb:b.length≤1000000)
  (h:∀h' tk,h'.get? S=some (d5 (b.take i++c++b.drop j))->(∀a o,a≠S->s.heap.get? a=some o->h'.get? a=some o)->Q (.done (.ret .none)) {s with heap:=h',toks:=tk}) :
  ai (model prog w) A (fY.«bytearray.__setitem__» ⟨[.ref S, .ref d, .bytes c.toArray t],[]⟩) Q (λJ J=>False) s:=by
 have wC:s.TypeIs (.ref d) "slice" :=⟨_,hd,rfl⟩
 unfold fY.«bytearray.__setitem__»;refine kA rfl (kS (m:=XW (.ref d)) (λq=>au (gb wC Ks (aU q))) ?_);refine kS (λq=>nc wC q) (kA rfl ?_);refine kS (λq=>DC hd hl hu q) (kA rfl ?_);refine kS (λq=>rx (T:= "bytes") rfl XH q) (Xq rfl ?_);refine kS (a:=false) (s':=s) (λq=> ?_) ?_
 ·refine bD (λq=>au (gb (T:= "bytes") rfl Ka (aU q))) (bD (λq=>au (gb (T:= "bytes") rfl XJ (aU q))) ?_);exact bD (λq=>au (gb (T:= "bytes") rfl XK (aU q))) (rx (T:= "bytes") rfl XI q)
 refine rt (Kk _ _) (kA rfl ?_);refine kS (λq=>jt q) ?_
 have XX:=ag (du▸lm c.length i) (ag mh hb)
 have hi:i≤j:=ao du (b6 i c.length)
 refine aE (Km (.bytes c t XX) λbM tk hN hk=> ?_);refine kS (λq=>kt (DC (hk d _ hd) hl hu q)) (bc ?_);refine bD (λq=>wA hN q) (bD (λq=>wA (hk S _ hS) q) ?_);refine bD (λq=>dU (Kr ei ej) q) (jx rfl ?_);refine bD (λq=>jt q) (dV (XS du) ?_);refine au (zx (c:=b.take i++c++b.drop j) (hk S _ hS) (DE hi) (fc (ao (XT du mh) hb)) λcM pY q7=> ?_);exact aU (h _ _ pY λa o bt g=>q7.extBut a o bt (hk a o g))
theorem XY{S d:Addr}{c:List UInt8}{t:Tok}{l:Value}{i:Nat}{Q:Unit->al->Prop}(hS:s.heap.get? S=some (d5 b))(hd:s.heap.get? d=some {cls:= .type "slice",data:= .fields #[l,u, .none]})
  (hl:ju l lo) (hu:ju u hi) (ei:pV lo b.length=i) (ej:pW hi b.length=j) (du:i+c.length=j) (mh:j≤b.length) (hb:b.length≤1000000)
  (h:∀h' tk,h'.get? S=some (d5 (b.take i++c++b.drop j))->(∀a o,a≠S->s.heap.get? a=some o->h'.get? a=some o)->Q () {s with heap:=h',toks:=tk}) :
  ai (model prog w) A (setItem (.ref S) (.ref d) (.bytes c.toArray t)) Q (λJ J=>False) s:=by
 refine cj (kS (λq=>J0 (gP hS) (by decide) q) ?_);refine aE ?_;unfold callSpecial?;refine kS (λq=>gb (gP hS) zA.lookup q) (cj (rt (zA.bind _) ?_));refine aE (o7 ?_);refine Kl (by decide +kernel) zA.plain XB (bc (zA.check _ _ _ _ _ _ _ _ (gP hS) (XC _ _ _) ?_));refine eS ?_ (λJ J x=>x) λ_ _ (x:False)=>x.elim;exact XV hS hd hl hu ei ej du mh hb λh' tk a b=>aY (aY (h h' tk a b))
end
end
theorem XZ:typeLookup (.type "bytes") "__bytes__" =pure (some (.builtin "bytes.__bytes__")):=by refine aH (jv ..) jw ?_;kernel_rfl
theorem X2:typeLookup (.type "int") "__bytes__" =pure none:=by refine aH (jv ..) jw ?_;kernel_rfl
theorem X3:typeLookup (.type "bytearray") "__bytes__" =pure none:=by refine aH (jv ..) jw ?_;kernel_rfl
theorem X4:typeLookup (.type "bytearray") "__index__" =pure none:=by refine aH (jv ..) jw ?_;kernel_rfl
section
variable{prog:dN}{w:cO}{A:cA}{E:Value->al->Prop}{s:al}
theorem X5(b:List UInt8){lo hi:Option Int}{i j:Nat}(ei:pV lo b.length=min i b.length)(ej:pW hi b.length=min j b.length) :
  J4 b.toArray (sliceBounds lo hi none b.toArray.size).1 (sliceBounds lo hi none b.toArray.size).2.1 (sliceBounds lo hi none b.toArray.size).2.2=((b.take j).drop i).toArray:=by
 unfold J4;refine aa (J5 ..) ?_;simp only [sliceRange_one,pick_run];exact aH fE ei (aa ej (aa (Ds ..) rfl))
theorem X6{S d:Addr}{l u:Value}{lo hi:Option Int}{i j:Nat}(hS:s.heap.get? S=some (d5 b))(hd:s.heap.get? d=some {cls:= .type "slice",data:= .fields #[l,u, .none]})
  (hl:ju l lo) (hu:ju u hi) (ei:pV lo b.length=min i b.length) (ej:pW hi b.length=min j b.length) (hb:b.length≤1000000)
  (h:Q (.ref s.heap.objs.size) {s with heap:=s.heap.push (d5 ((b.take j).drop i))}):wpAny (model prog w) A (getItem (.ref S) (.ref d)) Q E s:=by
 have wC:s.TypeIs (.ref d) "slice" :=⟨_,hd,rfl⟩
 refine getItem_meets (gP hS) (by decide) Ko XD (XE _ _) (S:=λJ R s'=>s'=s/\R (.ok (.ret (.ref s.heap.objs.size))) {s with heap:=s.heap.push (d5 ((b.take j).drop i))}) (.of_wp λprog w A R s' hs=> ?_) ⟨rfl,h⟩;obtain ⟨rfl,hR⟩:=hs;refine (?_:wpAny _ _ (XW (.ref d)>>=λr=>_) _ _ _);refine au (au (gb wC Ks (aU ?_)));refine bD (λq=>nc wC q) (dV rfl ?_);refine au (DC hd hl hu ?_);refine bD (λq=>wA hS q) (au (dU (XU lo hi none b.toArray.size (λe=>nomatch e)) ?_));dsimp only;refine aa (X5 b ei ej) (au ?_);refine qI ?_ (by show ((b.take j).drop i).toArray.size≤sizeLine;have:=fc hb;simp;exact ag (jW ..) (ag this (b6 ..)));exact aU ⟨_,rfl,hR⟩
theorem X7{S:Addr}(hS:s.heap.get? S=some (d5 b))(hb:b.length≤1000000)
  (h:Q (.int b.length (s.toks+1)) {s with toks:=s.toks+1+1}):wpAny (model prog w) A (call (.builtin "len") [.ref S]) Q E s:=by
 refine Calls.call_function_entry kind_len plain_len entry_len (args_len1 _) (au (m:=oneArg "len" _) (aU ?_));refine au (m:=callSpecial? (.ref S) (bd "__len__")) (wpAny_callSpecial?_slot (name:=bd "__len__") (gP hS) Kp (zi Kp (gP hS) XF (XG _)
  (S:=λJ R s'=>s'=s/\R (.ok (.ret (.int b.length s.toks))) {s with toks:=s.toks+1}) (.of_wp λprog w A R s' hs=> ?_) ⟨rfl, ?_⟩))
 ·obtain ⟨rfl,hR⟩:=hs;refine (?_:wpAny _ _ (Kh (.ref S)>>=λr=>_) _ _ _);refine au (wA hS ?_);exact aa fE (au (zB (aU ⟨_,rfl,hR⟩)))
 refine (?_:wpAny _ _ _ _ _ {s with toks:=s.toks+1});refine bD (λq=>kt (dU (rfl:asIndex (.int (b.length:Int) s.toks)=pure (b.length:Int)) q)) (au (wD ?_));refine oq (jU.mpr (eh _)) (oq (Kt.mpr (m9 (dT.mpr hb) (by decide))) ?_);exact au (zB (aU ⟨_,rfl,h⟩))
theorem X8{S:Addr}{Q:Bool->al->Prop}(hS:s.heap.get? S=some (d5 b))(h:Q true s):wpAny (model prog w) A (Kg (.ref S) "__buffer__") Q E s:=by
 unfold Kg;refine bD (λq=>gb (gP hS) Dx q) (dV (aa Kd.1 rfl) ?_);exact aa Kd.2 (rx (gP hS) ww h)
theorem X9{S:Addr}{id:String}{X':Bool}{Q:Option (Array UInt8)->al->Prop}(hS:s.heap.get? S=some (d5 b))(h:Q (some b.toArray) s):wpAny (model prog w) A (zC id (.ref S) X') Q E s:=by
 unfold zC;refine bD (λq=>gb (gP hS) Dx q) (bD (λq=>X8 hS q) ?_);refine dV rfl (au (gb (gP hS) Dx ?_));refine au (Kf hS ?_);exact dV rfl (au (wA hS (aU h)))
theorem Yb{x:Value}(jn:codeAny (model prog w) A.in1 (.call (.builtin "bytes.__new__") ⟨[.type "bytes",x],[]⟩) (wants (λobj aG=>aG.TypeIs obj "bytes" /\Q obj aG) E) s) :
  wpAny (model prog w) A (call (.type "bytes") [x]) Q E s:=by
 exact Ku (Q₁:=λobj aG=>aG.TypeIs obj "bytes" /\Q obj aG) Kv (F.bm_typeCall _) Yc jn λobj aG bM=>⟨bM.1,F.args_object_init_2 obj _,Yd Kv.init.lookup Kv.made (by decide) prog w A.in1 _ aG ⟨bM.1,rfl,bM.2⟩⟩
theorem Ye{x:Value}(h:wpAny (model prog w) A.in1 (fY.«bytes.__new__» ⟨[.type "bytes",x],[]⟩) (λbg s'=>∃r,bg= .done (.ret r)/\Q r s') E s) :
  codeAny (model prog w) A (.call (.builtin "bytes.__new__") ⟨[.type "bytes",x],[]⟩) (wants Q E) s:=by
 refine J8 (au (dU (F.bm_newCall _) (aU ⟨wx Yg _,wE F.bm_entry ?_⟩)));exact aa (wy Yg _) (JS h (λbg s' ⟨r,e,q⟩=>by subst e;exact q) λJ J x=>x)
inductive zD(h:Heap):Value->List UInt8->Prop
 | int (i:Int) (t:Tok):0≤i->i≤1000000->zD h (.int i t) (cf i.toNat 0)
 | bytes (b:List UInt8) (t:Tok):zD h (.bytes b.toArray t) b
 | dh (S:Addr) (b:List UInt8):h.get? S=some (d5 b)->b.length≤1000000->zD h (.ref S) b
theorem DF{x:Value}(hx:zD s.heap x b)(h:∀t k,Q (.bytes b.toArray t) {s with toks:=k}):wpAny (model prog w) A (call (.type "bytes") [x]) Q E s:=by
 refine Yb (Ye ?_);refine au (dU (a:=true) rfl ?_);refine dV rfl (au (dU F.bm_sub ?_));refine dV rfl (au (dU (F.bm_bind _) ?_));refine au (dU (a:=()) rfl ?_);refine au (dU (a:=()) rfl ?_);refine dV rfl ?_;cases hx with
 | int i t h0 h1 =>
  refine bD (λq=>gb (T:= "int") rfl X2 q) (au (au (dU (Kj _ _) (aU ?_))));refine dV rfl (au (gb (T:= "int") rfl J' ?_));refine dV rfl (bD (λq=>DA (dU (rfl:asIndex (.int i t)=pure i) q)) ?_);refine dV (by unfold Xw;simp;exact ⟨ic (by decide) h0,m9 h1 (by decide)⟩) (oq (jU.mpr h0) ?_);refine oq (jU.mpr (ic h1 (by decide))) (dV (by unfold Dy;have:=fc (tW.mpr h1);simpa using this) ?_);refine au (jt (au (Kw ?_ (by refine aa Array.size_replicate ?_;exact fc (tW.mpr h1)))));refine jx (by decide) ?_
  have:=h s.toks (s.toks+1)
  rw [show (cf i.toNat (0:UInt8)).toArray=Array.replicate i.toNat 0 by simp] at this
  exact aU ⟨_,rfl,rfl,this⟩
 | bytes b t =>
  refine bD (λq=>gb (T:= "bytes") rfl XZ q) (au (jt (au (nc (lj _ _ _) ?_))));refine jx rfl (jx (by decide) ?_);exact aU ⟨_,rfl,rfl,h t s.toks⟩
 | dh S b hS hb =>
  refine bD (λq=>gb (gP hS) X3 q) (au (au ?_));refine bD (λq=>qN hS q) (aU (aU ?_));refine dV rfl (au (gb (gP hS) X4 ?_));refine jx rfl ?_
  first
   | refine (?_:wpAny _ _ (zC "bytes.__new__" (.ref S) true>>=_) _ _ _)
   | (refine au ?_;show wpAny _ _ (zC "bytes.__new__" (.ref S) true>>=_) _ _ _)
  refine bD (λq=>X9 hS q) (au (jt (au (Kw ?_ (by refine aa fE ?_;exact fc hb)))))
  first
   | (refine jx (by decide) ?_;exact aU ⟨_,rfl,rfl,h _ _⟩)
   | (refine au (jx (by decide) ?_);exact aU (aU ⟨_,rfl,rfl,h _ _⟩))
end
section
variable{prog:dN}{w:cO}{A:cA}{E:Value->al->Prop}{s:al}
theorem Kx{l:Addr}{items:Array Value}{Q:Array Value->al->Prop}(hl:s.heap.IsList l items)(h:Q items s):wpAny (model prog w) A (Ky (.ref l)) Q E s:=by
 obtain ⟨o,ho,hc,n,hd⟩:=hl;unfold Ky;exact au (lp ho hd (aU h))
theorem Yh{d:Addr}{l u:Value}{lo hi:Option Int}{Q:Value×Value×Value->al->Prop}(hd:s.heap.get? d=some {cls:= .type "slice",data:= .fields #[l,u, .none]})(hl:ju l lo)(hu:ju u hi)
  (h:Q (rawPart lo,rawPart hi,rawPart none) s):wpAny (model prog w) A (ahU (.ref d)) Q E s:=by
 refine aa (listSliceParts_eq ..) (au (m:=field (.ref d) 2) (gG hd rfl (x:= .none) rfl (au (Kz .none ?_))));refine dV rfl (au (m:=field (.ref d) 0) (gG hd rfl (x:=l) rfl (au (Kz hl ?_))));refine au (m:=field (.ref d) 1) (gG hd rfl (x:=u) rfl (au (Kz hu (aU h))))
theorem Yi{S d r:Addr}{xs:List Value}{l u:Value}{lo hi:Option Int}{i j:Nat}{Q:Unit->al->Prop}(KA:gH s.heap S xs.toArray)(hr:s.heap.IsList r ys.toArray)(bt:r≠S)(hd:s.heap.get? d=some {cls:= .type "slice",data:= .fields #[l,u, .none]})
  (hl:ju l lo) (hu:ju u hi) (ei:pV lo xs.length=i) (ej:pW hi xs.length=j) (du:i≤j) (hz:xs.length+ys.length≤1000000)
  (h:∀h',gH h' S (xs.take i++ys++xs.drop j).toArray->iI S s.heap h'->Q () {s with heap:=h'}) :
  wpAny (model prog w) A (setItem (.ref S) (.ref d) (.ref r)) Q E s:=by
 have hS:=KA.list
 obtain ⟨o,ho,hc,ne,DG⟩:=id hS;refine kt (bD (λq=>J0 hS.typeIs (by decide) q) ?_);refine au (wpAny_callSpecial?_slot (name:=bd "__setitem__") hS.typeIs Dq
  (n0 Dq hS.typeIs W2 ?_ (W3 _ _ _)))
 have KB:s.TypeIs (.ref d) "slice" :=⟨_,hd,rfl⟩
 refine bD (m:=W4 (.ref d)) (λq=>au (gb KB Ks (aU q))) (bD (λq=>nc KB q) ?_);refine dV rfl (bD (λq=>Yh hd hl hu q) ?_);refine dV (by unfold Yj;simpa using iM bt) (bD (λq=>au (nc hr.typeIs (jx rfl (Kx hr q)))) ?_);refine bD (m:=Ky (.ref S)) (λq=>Kx hS q) (bD (λq=>dU (Kr ei ej) q) ?_);refine jx rfl (bD (λq=>jt q) ?_);refine dV (by unfold V4;have:=fc hz;simpa using this) (bD (m:=updateSeq S _) (λq=>HR ho DG q (fc (ag (b6 ..) hz)) (ag (bS (congrArg Array.size (DE du))) (ag (XQ du) (mi (fc hz))))) ?_);exact bD (λq=>wD q) (aU ⟨_,rfl,aU (h _ (B9 KA (DE du)) (mY ..))⟩)
end
section
variable {hi lo:Option ab}{u:Value}
section
variable{X:Cx}{n:Nat}{L:Addr}{ae:List Loc}
theorem Yk(vs:List α)(j:Nat):vs.drop (min j vs.length)=vs.drop j:=by
 rcases wB j vs.length with q | q
 ·exact aa (gO q) rfl
 ·exact aa (pX q) (aa Yl (aa (tF q) rfl))
theorem DH{i n:Nat}(h:i≤n):min i n=i:=gO h
theorem Ym{o v}{K:Unit->St->Prop}{κ s x z d}{l:Value}(rel:Rel X L ae st κ s)(h:vk o lo hi v st (K ()))(hx:am (aj st.σ κ) s.heap o x)(fZ:fG (aj st.σ κ) s.heap lo l)(iW:fG (aj st.σ κ) s.heap hi u)
  (hz:am (aj st.σ κ) s.heap v z) (hd:s.heap.get? d=some {cls:= .type "slice",data:= .fields #[l,u, .none]}):Op X n L ae st κ s (setItem x (.ref d) z) hH K:=by
 rcases h with ⟨a,vs,ws,i,j,rfl,fu,rfl,l7,ku,aR,iY,du,hK⟩ | ⟨a,b,c,i,j,rfl,fu,rfl,l7,ku,aR,du,mh,hK⟩
 ·cases hx.bQ;refine eK (hz.inv) λr ahV bL ur hr KC=> ?_;subst bL;refine aB (rel.g.own a _ fu) λys tU aL=> ?_
  have l1:=aL.length
  have l2:=KC.length
  refine aB (wq l7 fZ) λqa pa ea=>aB (wu ku iW) λqb pb eb=> ?_;refine λA ng=>bc (Yi (i:=i) (j:=min j vs.length) tU hr (λe=>nn (ur.1.symm.trans (e▸fu))) hd pa pb ((ea _).trans (ao l1 (DH iY))) (ao l1 eb) (zE.mpr ⟨du,iY⟩) (by unfold dQ at aR;exact l1▸ao l2 aR) λh' eE hs=> ?_);obtain ⟨G',ev⟩:=rel.g.change (s':={s with heap:=h'}) (d:=a) (o':= .list (vs.take i++ws++vs.drop j)) fu (.inl rfl) (λb ob q g=>(hs.2 b q).trans g) (aB eE.list λob g J=>⟨ob,g⟩)
   (λS=>⟨_,eE,Yk vs j▸(((aL.take i).append KC).append (aL.drop (min j vs.length))).mono S⟩) (λJ J J J J=>d8.noConfusion) rfl rfl
  exact .op rel G' ev trivial hK
 ·cases hx.bQ;obtain ⟨t,rfl⟩:=hz.mI;refine aB (wq l7 fZ) λqa pa ea=>aB (wu ku iW) λqb pb eb=> ?_;refine λA ng=>XY (i:=i) (j:=j) (show s.heap.get? a=some (d5 b) from rel.g.own a _ fu) hd pa pb ((ea _).trans (DH (ag (du▸b6 ..) mh))) (eb.trans (DH mh)) du mh aR λh' tk zz hk=> ?_;obtain ⟨G',ev⟩:=rel.g.change (s':={s with heap:=h',toks:=tk}) (d:=a) (o':= .dh (b.take i++c++b.drop j)) fu (.inl rfl) (λb ob q g=>hk b ob q g) ⟨_,zz⟩ (λJ=>zz) (λJ J J J J=>d8.noConfusion) rfl rfl;exact .op rel G' ev trivial hK
theorem Yn{q:Addr}{κ s d}{l:Value}{e1:Expr}{p:Pos}(rel:Rel X L ae st κ s){c:List UInt8}{i j:Nat}(fu:st.σ q=some (.dh c))(l7:lT lo=some i)(ku:lV c.length hi=some j)(aR:dQ c.length)(hK:∀a',st.σ a'=none->K (.ref a') (st.put (st.σ.set a' (.dh ((c.take j).drop i)))))
  (fZ:fG (aj st.σ κ) s.heap lo l) (iW:fG (aj st.σ κ) s.heap hi u) (hd:s.heap.get? d=some {cls:= .type "slice",data:= .fields #[l,u, .none]}) {a b:Option Expr}:cK X n L ae st κ s (subscriptTail e1 (.Slice a b none p) (.ref q) (.ref d)) am K:=by
 have hb:s.heap.get? q=some (d5 c):=rel.g.own q _ fu
 refine aB (wq l7 fZ) λqa pa ea=>aB (wu ku iW) λqb pb eb=> ?_;refine λA hr=>tail_any (gP hb) Ko.lookup (X6 hb hd pa pb (ea _) eb aR ?_);generalize (c.take j).drop i=w at hK ⊢
 have k:=er s.heap (d5 w)
 exact Post.op rel (rel.g.nZ (s':={s with heap:=s.heap.push (d5 w)}) (o:= .dh w) k ⟨_,cV _ rfl⟩ rfl rfl (cV _ rfl)) (.nZ k) (.raw _) (hK _ (iK rel.g).1)
theorem Yo{o}{κ s x d}{l:Value}{e1:Expr}{p:Pos}(rel:Rel X L ae st κ s)(h:kj o lo hi st K)(hx:am (aj st.σ κ) s.heap o x)(fZ:fG (aj st.σ κ) s.heap lo l)(iW:fG (aj st.σ κ) s.heap hi u)
  (hd:s.heap.get? d=some {cls:= .type "slice",data:= .fields #[l,u, .none]}) {a b:Option Expr}:cK X n L ae st κ s (subscriptTail e1 (.Slice a b none p) x (.ref d)) am K:=by
 rcases h with ⟨b,l,h,rfl,h1,h2,h3,hK⟩ | ⟨vs,l,h,hs,h1,h2,h3,hK⟩ | ⟨q,c,i,j,rfl,fu,l7,ku,aR,hK⟩
 ·exact W9 rel h1 h2 h3 hK hx fZ iW hd
 ·exact W8 rel hs h1 h2 h3 hK hx fZ iW hd
 ·cases hx.bQ;exact Yn rel fu l7 ku aR hK fZ iW hd
theorem DI(ok:eY X):Ops X n where
 bin:=λh rel hx hy=>(V' rel h hx hy).g
 HC:=λh rel hx hy=>(Wb rel h hx hy).g
 neg:=λh rel hx=>(Wc rel h hx).g
 cmp:=λh rel hx hy=>(WB rel h hx hy).g
 sub:=λh rel hx hy hn=>(WI rel h hx hy).g
 get:=λh rel hx hy=>λA hr=>let ⟨_,_,_,_,q⟩:=JR rel h hx hy;bc (q n A hr)
 slice:=λh rel hx fZ iW hd J=>(Yo rel h hx fZ iW hd).g
 attr:=λh ee hK rel hx=>(WQ ok rel h ee hK hx).g
 setAttr:=λh rel hx hy=>(W0 ok rel h hx hy).g
 B3:=λh rel hx hy hz=>(W5 rel h hx hy hz).g
 HD:=λh rel hx fZ iW hz hd J=>Ym rel h hx fZ iW hz hd
end
end
structure DJ(prog:dN)(w:cO)(I:Nat)(fp:List Nat)(n:Nat)(P:Nat->Value->Prop)(St:Nat->Heap->Prop):Prop where
 self:I∈fp
 frame:∀i h h',St i h->(∀b∈fp,∀o,h.get? b=some o->h'.get? b=some o)->St i h'
 live:∀i h,St i h->∀b∈fp,∃o,h.get? b=some o
 item:∀(A:cA) i (s:al) (Q:Value->al->Prop) (E:Value->al->Prop),i<n->St i s.heap->
  (∀v h' tk,P i v->St (i+1) h'->h'.objs.size=s.heap.objs.size->(∀b o,b≠I->s.heap.get? b=some o->h'.get? b=some o)->Q v {s with heap:=h',toks:=tk})->wpAny (model prog w) A (rF (.ref I)) Q E s
 done:∀(A:cA) (s:al) (Q:Value->al->Prop) (E:Value->al->Prop),A.handled=none->St n s.heap->
  (∀h' e,(∀b o,b≠I->s.heap.get? b=some o->h'.get? b=some o)->(∃o,h'.get? e=some o/\o.cls= .type "StopIteration")->E (.ref e) {s with heap:=h'})->wpAny (model prog w) A (rF (.ref I)) Q E s
structure Sub where
 I:Nat
 fp:List Nat
 n:Nat
 P:Nat->Value->Prop
 Sq:Nat->Heap->Prop
abbrev Sub.ok(prog:dN)(w:cO)(u:Sub):Prop:=DJ prog w u.I u.fp u.n u.P u.Sq
abbrev fy(h:Heap)(T:Nat)(vs:List Value):Prop:=h.get? T=some {cls:= .type "tuple",data:= .seq vs.toArray}
structure pZ(z TI TO:Nat)(us:List Sub):Prop where
 TIz:TI≠z
 TOz:TO≠z
 TITO:TI≠TO
 zf:∀u∈us,z∉u.fp
 rG:∀u∈us,TO∉u.fp
 DK:∀u∈us,TI≠u.I
 pw:us.Pairwise λu v=>u.I∉v.fp/\v.I∉u.fp
def p0(i:Nat):List Sub->List Value->Prop
 | [],[]=>True
 | u::us,v::vs=>u.P i v/\p0 i us vs
 | _,_=>False
theorem p0.length{i}:∀{us vs},p0 i us vs->vs.length=us.length:=by
 intro us
 induction us with
 | nil=>exact λ{vs} h=>by rcases vs with _ | _;rfl;exact h.elim
 | cons u us ih=>exact λ{vs} h=>by rcases vs with _ | _;exact h.elim;exact congrArg (λz=>z +1) (ih h.2)
section
variable{prog:dN}{w:cO}{A:cA}{E:Value->al->Prop}
noncomputable abbrev nh:=Option rE×Unit
def KD(prog:dN)(w:cO)(A:cA)(E:Value->al->Prop)(z TO:Nat)(f:Value×Nat->nh->Sem (ForInStep nh)):Prop :=
 (∀(u:Sub) k (r:nh) (s:al) (vs:List Value) i (Q:ForInStep nh->al->Prop),u.ok prog w->TO∉u.fp->i<u.n->u.Sq i s.heap->fy s.heap TO vs->vs.length≤100->
  (∀v h' tk,u.P i v->u.Sq (i+1) h'->fy h' TO (vs.set k v)->h'.objs.size=s.heap.objs.size->(∀b o,b≠u.I->b≠TO->s.heap.get? b=some o->h'.get? b=some o)->Q (.yield (none,())) {s with heap:=h',toks:=tk})->wpAny (model prog w) A (f (.ref u.I,k) r) Q E s)/\
 (∀(u:Sub) k (r:nh) (s:al) (Q:ForInStep nh->al->Prop),u.ok prog w->z∉u.fp->u.Sq u.n s.heap->(∃fl,s.heap.get? z=some {cls:= .type "zip",dict:=none,data:= .fields fl,slots:= #[]}/\0<fl.size)->
  (∀h' e,(∀b o,b≠z->b≠u.I->s.heap.get? b=some o->h'.get? b=some o)->(∃o,h'.get? e=some o/\o.cls= .type "StopIteration")->E (.ref e) {s with heap:=h'})->wpAny (model prog w) A (f (.ref u.I,k) r) Q E s)
theorem Yp{z TI TO:Nat}{f}(D:KD prog w A E z TO f){i:Nat}:∀(us:List Sub) (k:Nat) (s:al) (vs:List Value) (Q:nh->al->Prop),pZ z TI TO us->(∀u∈us,u.ok prog w)->(∀u∈us,i<u.n/\u.Sq i s.heap)->fy s.heap TO vs->vs.length≤100->vs.length=k+us.length->
  (∀h' tk ws,p0 i us ws->(∀u∈us,u.Sq (i+1) h')->fy h' TO (vs.take k++ws)->h'.objs.size=s.heap.objs.size->(∀b o,(∀u∈us,b≠u.I)->b≠TO->s.heap.get? b=some o->h'.get? b=some o)->Q (none,()) {s with heap:=h',toks:=tk})->
  wpAny (model prog w) A (forIn ((us.map λu=>m1 u.I).zipIdx k) ((none,()):nh) f) Q E s:=by
 intro us
 induction us with
 | nil =>
  intro k s vs Q Z ok hs hT h100 hl hQ;simp only [Yq,List.zipIdx_nil,Ji];exact aU (hQ s.heap s.toks [] trivial (by simp) (by refine aa (q8 (by simp at hl;exact bS hl)) ?_;simpa using hT) rfl λb o J J e=>e)
 | cons u us ih =>
  intro k s vs Q Z ok hs hT h100 hl hQ;simp only [eN,DL,pd];obtain ⟨h1,h2⟩:=hs u (.head _);refine au (D.1 u k _ s vs i _ (ok u (.head _)) (Z.rG u (.head _)) h1 h2 hT h100 λv h' tk hv bZ ot bJ hk=> ?_)
  have pw:=p4.mp Z.pw
  have Z':pZ z TI TO us:=⟨Z.TIz,Z.TOz,Z.TITO,λx hx=>Z.zf x (.tail _ hx),λx hx=>Z.rG x (.tail _ hx),λx hx=>Z.DK x (.tail _ hx),pw.2⟩
  refine ih (k+1) {s with heap:=h',toks:=tk} (vs.set k v) Q Z' (λx hx=>ok x (.tail _ hx)) (λx hx=> ?_) ot (by simpa using h100) (by simp at hl ⊢;exact hl.trans (qG ..).symm) λiG rH ws fX iP tX Yr d3=> ?_
  ·obtain ⟨a,b⟩:=hs x (.tail _ hx);refine ⟨a,(ok x (.tail _ hx)).frame _ _ _ b λc hc o e=>hk c o (λq=>(pw.1 x hx).1 (ao q hc)) (λq=>Z.rG x (.tail _ hx) (ao q hc)) e⟩
  ·refine hQ iG rH (v::ws) ⟨hv,fX⟩ (λx hx=> ?_) ?_ (Yr.trans bJ) λb o hb zF e=>d3 b o (λx hx=>hb x (.tail _ hx)) zF (hk b o (hb u (.head _)) zF e)
   ·rcases bq.mp hx with rfl | hx
    ·exact (ok x (.head _)).frame _ _ _ bZ λc hc o e=>d3 c o (λy hy q=>(pw.1 y hy).2 (ao q hc)) (λq=>Z.rG x (.head _) (ao q hc)) e
    ·exact iP x hx
   ·rw [ow,List.take_set_of_le (cb _),vE (by simp at hl;exact hl▸yK (rI _))] at tX
    simpa using tX
theorem Ys{z TI TO:Nat}{f}(D:KD prog w A E z TO f){n:Nat}:∀(us:List Sub) (k:Nat) (s:al) (vs:List Value) (Q:nh->al->Prop),pZ z TI TO us->(∀u∈us,u.ok prog w)->(∀u∈us,n≤u.n/\u.Sq n s.heap)->(∃u∈us,u.n=n)->fy s.heap TO vs->vs.length≤100->
  (∃fl,s.heap.get? z=some {cls:= .type "zip",dict:=none,data:= .fields fl,slots:= #[]}/\0<fl.size)->
  (∀h' tk e,(∀b o,b≠z->(∀u∈us,b≠u.I)->b≠TO->s.heap.get? b=some o->h'.get? b=some o)->(∃o,h'.get? e=some o/\o.cls= .type "StopIteration")->E (.ref e) {s with heap:=h',toks:=tk})->
  wpAny (model prog w) A (forIn ((us.map λu=>m1 u.I).zipIdx k) ((none,()):nh) f) Q E s:=by
 intro us
 induction us with
 | nil =>
  intro k s vs Q Z ok hs hn hT h100 hz hQ;exact hn.elim λu h=>absurd h.1 dJ
 | cons u us ih =>
  intro k s vs Q Z ok hs hn hT h100 hz hQ;simp only [eN,DL,pd];obtain ⟨h1,h2⟩:=hs u (.head _)
  by_cases hd:u.n=n
  ·subst hd;exact au (D.2 u k _ s _ (ok u (.head _)) (Z.zf u (.head _)) h2 hz λh' e hk he=>hQ h' s.toks e (λb o a b' c g=>hk b o a (b' u (.head _)) g) he)
  ·refine au (D.1 u k _ s vs n _ (ok u (.head _)) (Z.rG u (.head _)) (DM h1 λe=>hd e.symm) h2 hT h100 λv h' tk hv bZ ot bJ hk=> ?_)
   have pw:=p4.mp Z.pw
   have Z':pZ z TI TO us:=⟨Z.TIz,Z.TOz,Z.TITO,λx hx=>Z.zf x (.tail _ hx),λx hx=>Z.rG x (.tail _ hx),λx hx=>Z.DK x (.tail _ hx),pw.2⟩
   refine ih (k+1) {s with heap:=h',toks:=tk} (vs.set k v) Q Z' (λx hx=>ok x (.tail _ hx)) (λx hx=> ?_) ?_ ot (by simpa using h100) ?_ λiG rH e d3 he=>hQ iG rH e (λb o a b' c g=>d3 b o a (λx hx=>b' x (.tail _ hx)) c (hk b o (b' u (.head _)) c g)) he
   ·obtain ⟨a,b⟩:=hs x (.tail _ hx);exact ⟨a,(ok x (.tail _ hx)).frame _ _ _ b λc hc o e=>hk c o (λq=>(pw.1 x hx).1 (ao q hc)) (λq=>Z.rG x (.tail _ hx) (ao q hc)) e⟩
   ·obtain ⟨x,hx,e⟩:=hn;rcases bq.mp hx with rfl | hx
    ·exact absurd e hd
    ·exact ⟨x,hx,e⟩
   ·obtain ⟨fl,e,l⟩:=hz;exact ⟨fl,hk z _ (λq=>Z.zf u (.head _) (q▸(ok u (.head _)).self)) Z.TOz.symm e,l⟩
end
section
variable {TI TO:Nat}{us:List Sub}
section
variable{prog:dN}{w:cO}{A:cA}{E:Value->al->Prop}{s:al}
theorem KE{vs:List Value}{v:Value}{Q:Unit->al->Prop}(hT:fy s.heap TO vs)(hz:vs.length≤100)
  (h:∀h',fy h' TO (vs.set k v)->iI TO s.heap h'->Q () {s with heap:=h'}):wpAny (model prog w) A (updateSeq TO (λz=>z.setIfInBounds k v)) Q E s:=by
 refine HR hT rfl (h _ ?_ (mY ..)) (aa fE (fc (ag hz (nb rfl)))) (by simp;exact mi (fc (ag hz (nb rfl))));refine (?_:(s.heap.update TO _).get? TO=_);rw [vy _ hT rfl];simp [yF]
theorem Yt{z:Nat}{i:Nat}{os:List Value}(hh:A.handled=none)(Z:pZ z TI TO us)(ok:∀u∈us,u.ok prog w)(bt:us≠ [])(aR:us.length≤100)
  (hz:mj s.heap z TI TO .none) (jX:fy s.heap TI (us.map λu=> .ref u.I)) (lq:fy s.heap TO os) (tT:os.length=us.length) (hs:∀u∈us,i<u.n/\u.Sq i s.heap)
  (hQ:∀h' tk ws,p0 i us ws->mj h' z TI TO (rawInt s.heap.objs.size)->fy h' TI (us.map λu=> .ref u.I)->fy h' TO ws->(∀u∈us,u.Sq (i+1) h')->fy h' s.heap.objs.size ws->
   (∀b o,b≠z->b≠TO->(∀u∈us,b≠u.I)->s.heap.get? b=some o->h'.get? b=some o)->Q (.ref s.heap.objs.size) {s with heap:=h',toks:=tk}) :
  wpAny (model prog w) A (fY.«zip.__next__» ⟨[.ref z],[]⟩) (λbg s'=>∃v,bg= .done (.ret v)/\Q v s') E s:=by
 refine (?_:wpAny _ _ (field (.ref z) 2>>=_) _ _ _);refine au (gG hz rfl (x:= .bool false) rfl ?_);refine au (gG hz rfl (x:= .ref TI) rfl ?_);refine au (lp jX rfl ?_);refine dV (by simpa using bt) (au ?_);refine au (gG hz rfl (x:= .none) rfl (aU ?_));refine jx rfl (au (jt ?_));refine au (gG hz rfl (x:= .ref TO) rfl ?_);dsimp only;refine au (wF hz (by simp) λbM wG gy=> ?_);replace wG:mj bM z TI TO .ellipsis:=wG;refine au (Yp (i:=i) (z:=z) (TI:=TI) (TO:=TO) ⟨?_, ?_⟩ us 0 {s with heap:=bM} os _ Z ok (λu hu=>⟨(hs u hu).1,(ok u hu).frame _ _ _ (hs u hu).2 λb hb o e=>gy.extBut _ _ (λq=>Z.zf u hu (q▸hb)) e⟩) (gy.extBut _ _ Z.TOz lq) (aa tT aR) (by simpa using tT) λcM tk ws fX Yu zG Yv DP=> ?_)
 ·intro u k r s' vs i' Q' D hTOu hi bZ hT h100 hQ';refine au (DQ ?_);refine (?_:wpAny _ _ (rF (.ref u.I)>>=_) _ _ _);refine au (D.item _ _ _ _ _ hi bZ λv h' tk hv iP bJ hk=>aU ?_)
  have ot:fy h' TO vs:=hk _ _ (λq=>hTOu (aa q D.self)) hT
  refine au (lp ot rfl ?_);dsimp only;refine au (KE ot h100 λiG tX rJ=> ?_);refine au (wD (aU ?_));exact hQ' v iG tk hv (D.frame _ _ _ iP λb hb o e=>rJ.extBut _ _ (λq=>hTOu (ao q hb)) e) tX (rJ.1.trans bJ) λb o b1 b2 e=>rJ.extBut _ _ b2 (hk b o b1 e)
 ·intro u k r s' Q' D hzu bZ gA hE;obtain ⟨fl,gA,iZ⟩:=gA;refine au (DQ ?_);refine (?_:wpAny _ _ (rF (.ref u.I)>>=_) _ _ _);refine au (D.done _ _ _ _ hh bZ λh' e hk he=> ?_)
  have wH:=hk z _ (λq=>hzu (aa q D.self)) gA
  obtain ⟨oe,rK,rh⟩:=he
  have DR:e≠z:=λx=>by subst x;rw [wH] at rK;cases rK;simp at rh
  exact wF wH iZ λh3 J mm=>hE h3 e (λb o b1 b2 g=>mm.extBut _ _ b1 (hk b o b2 g)) ⟨oe,mm.extBut _ _ DR rK,rh⟩
 have zG:fy cM TO ws:=by simpa using zG
 refine bD (λq=>lp zG rfl q) ?_;dsimp only;refine au (KF ?_ (fc (ag (bS fX.length) (ag aR (nb rfl)))))
 have bJ:cM.objs.size=s.heap.objs.size:=aa Yv gy.1
 have KG:mj cM z TI TO .ellipsis:=DP _ _ (λu hu q=>Z.zf u hu (q▸(ok u hu).self)) Z.TOz.symm wG
 refine au ?_
 have Yw:mj (cM.push {cls:= .type "tuple",data:= .seq ws.toArray}) z TI TO .ellipsis:=fq _ KG
 refine au (wF (Yw) (by simp) λqK DS KH=> ?_);replace DS:mj qK z TI TO (rawInt cM.objs.size):=DS;refine wF DS (by simp) λo9 zH KI=> ?_;replace zH:mj o9 z TI TO (rawInt cM.objs.size):=zH
 have up:∀c o,c≠z->cM.get? c=some o->o9.get? c=some o:=λc o c1 e=>KI.extBut _ _ c1 (KH.extBut _ _ c1 (fq _ e))
 have KJ:z<cM.objs.size:=cR KG
 have KL:fy o9 cM.objs.size ws:=KI.extBut _ _ (fH KJ) (KH.extBut _ _ (fH KJ) (cV _ rfl))
 refine aU ⟨_,rfl, ?_⟩;rw [bJ] at zH KL ⊢
 refine hQ o9 tk ws fX zH (up _ _ Z.TIz (DP _ _ Z.DK Z.TITO (gy.extBut _ _ Z.TIz jX))) (up _ _ Z.TOz zG) (λu hu=>(ok u hu).frame _ _ _ (Yu u hu) λb hb o e=>up b o (λq=>Z.zf u hu (ao q hb)) e) KL
  λb o b1 b2 b3 e=>up b o b1 (DP b o b3 b2 (gy.extBut _ _ b1 e))
theorem Yx{z:Nat}{n:Nat}{os:List Value}{Q:rE->al->Prop}(hh:A.handled=none)(Z:pZ z TI TO us)(ok:∀u∈us,u.ok prog w)(aR:us.length≤100)
  (hz:mj s.heap z TI TO .none) (jX:fy s.heap TI (us.map λu=> .ref u.I)) (lq:fy s.heap TO os) (tT:os.length=us.length) (hs:∀u∈us,n≤u.n/\u.Sq n s.heap) (hn:∃u∈us,u.n=n)
  (hE:∀h' tk e,(∀b o,b≠z->b≠TO->(∀u∈us,b≠u.I)->s.heap.get? b=some o->h'.get? b=some o)->(∃o,h'.get? e=some o/\o.cls= .type "StopIteration")->E (.ref e) {s with heap:=h',toks:=tk}) :
  wpAny (model prog w) A (fY.«zip.__next__» ⟨[.ref z],[]⟩) Q E s:=by
 refine (?_:wpAny _ _ (field (.ref z) 2>>=_) _ _ _);refine au (gG hz rfl (x:= .bool false) rfl ?_);refine au (gG hz rfl (x:= .ref TI) rfl ?_);refine au (lp jX rfl ?_);refine dV (by refine aB hn λu hu J=> ?_;simpa using List.ne_nil_of_mem hu) ?_;refine au ?_;refine au (gG hz rfl (x:= .none) rfl (aU ?_));refine jx rfl (au (jt ?_));refine au (gG hz rfl (x:= .ref TO) rfl ?_);dsimp only;refine au (wF hz (by simp) λbM wG gy=> ?_)
 have Yy:∀u∈us,n≤u.n/\u.Sq n bM:=λu hu=>⟨(hs u hu).1,(ok u hu).frame _ _ _ (hs u hu).2 λb hb o e=>gy.extBut _ _ (λq=>Z.zf u hu (ao q hb)) e⟩
 refine au (Ys (n:=n) (z:=z) (TI:=TI) (TO:=TO) ⟨?_, ?_⟩ us 0 {s with heap:=bM} os _ Z ok Yy hn (gy.extBut _ _ Z.TOz lq) (aa tT aR) ⟨_,wG,by simp⟩ λh' tk e hk he=>hE h' tk e (λb o b1 b2 b3 g=>hk b o b1 b3 b2 (gy.extBut _ _ b1 g)) he)
 ·intro u k r s' vs i' Q' D hTOu hi bZ hT h100 hQ';refine au (DQ ?_);refine (?_:wpAny _ _ (rF (.ref u.I)>>=_) _ _ _);refine au (D.item _ _ _ _ _ hi bZ λv h' tk hv iP bJ hk=>aU ?_)
  have ot:fy h' TO vs:=hk _ _ (λq=>hTOu (aa q D.self)) hT
  refine au (lp ot rfl ?_);dsimp only;refine au (KE ot h100 λiG tX rJ=> ?_);refine au (wD (aU ?_));exact hQ' v iG tk hv (D.frame _ _ _ iP λb hb o e=>rJ.extBut _ _ (λq=>hTOu (ao q hb)) e) tX (rJ.1.trans bJ) λb o b1 b2 e=>rJ.extBut _ _ b2 (hk b o b1 e)
 ·intro u k r s' Q' D hzu bZ gA hE;obtain ⟨fl,gA,iZ⟩:=gA;refine au (DQ ?_);refine (?_:wpAny _ _ (rF (.ref u.I)>>=_) _ _ _);refine au (D.done _ _ _ _ hh bZ λh' e hk he=> ?_)
  have wH:=hk z _ (λq=>hzu (aa q D.self)) gA
  obtain ⟨oe,rK,rh⟩:=he
  have DR:e≠z:=λx=>by subst x;rw [wH] at rK;cases rK;simp at rh
  exact wF wH iZ λh3 J mm=>hE h3 e (λb o b1 b2 g=>mm.extBut _ _ b1 (hk b o b2 g)) ⟨oe,mm.extBut _ _ DR rK,rh⟩
noncomputable def p5:List Sub->Nat
 | []=>0
 | [u]=>u.n
 | u::us=>min u.n (p5 us)
theorem zI:us≠ []->(∀u∈us,p5 us≤u.n)/\∃u∈us,u.n=p5 us:=by
 induction us with
 | nil=>exact λh=>absurd rfl h
 | cons u us ih =>
  intro _;rcases us with _ | ⟨v,us⟩
  ·exact ⟨λv hv=>aa (dL.mp hv) (cb _),u, .head _,rfl⟩
  refine dP (ih (DT _ _)) λa b=>aB b λx hx e=> ?_
  have e0:p5 (u::v::us)=min u.n (p5 (v::us)):=rfl
  refine ⟨λy hy=> ?_, ?_⟩
  ·exact (bq.mp hy).elim (λq=>aa e0 (aa q (kB ..))) λhy=>aa e0 (ag (jW ..) (a y hy))
  ·exact (wB u.n (p5 (v::us))).elim (λq=>⟨u, .head _,e0.trans (gO q) |>.symm⟩) λq=>⟨x, .tail _ hx,e.trans (e0.trans (pX q)).symm⟩
theorem Yz(hh:A.handled=none){z:Nat}(Z:pZ z TI TO us)(ok:∀u∈us,u.ok prog w)(bt:us≠ [])(aR:us.length≤100) :
  H1 prog w A z (z::TI::TO::us.flatMap (λz=>z.fp)) (z::TO::us.map (λz=>z.I)) (p5 us) (λi vals=>p0 i us vals.toList)
   (λi h=>mj h z TI TO .none/\fy h TI (us.map λu=> .ref u.I)/\(∃os:List Value,fy h TO os/\os.length=us.length)/\∀u∈us,u.Sq i h)
   (λi T h=>mj h z TI TO (rawInt T)/\fy h TI (us.map λu=> .ref u.I)/\(∃os:List Value,fy h TO os/\os.length=us.length)/\(∀u∈us,u.Sq (i+1) h)/\T∉z::TO::us.map (λz=>z.I)) where
 sub:=λc hc=>by
  rcases bq.mp hc with rfl | hc
  ·exact .head _
  rcases bq.mp hc with rfl | hc
  ·exact .tail _ (.tail _ (.head _))
  refine aB (bF.mp hc) λu hu bL=> ?_;subst bL;exact .tail _ (.tail _ (.tail _ (KM.mpr ⟨u,hu,(ok u hu).self⟩)))
 frame:=λi h h' bZ hk=>by
  obtain ⟨hz,jX,⟨os,lq,hl⟩,hs⟩:=bZ;exact ⟨hk z (.head _) _ hz,hk TI (.tail _ (.head _)) _ jX,⟨os,hk TO (.tail _ (.tail _ (.head _))) _ lq,hl⟩,λu hu=>(ok u hu).frame _ _ _ (hs u hu) λb hb o e=>hk b (.tail _ (.tail _ (.tail _ (KM.mpr ⟨u,hu,hb⟩)))) o e⟩
 item:=λi s Q E hi bZ hQ=>by
  obtain ⟨hz,jX,⟨os,lq,hl⟩,hs⟩:=bZ
  have hT:s.TypeIs (.ref z) "zip" :=⟨_,hz,rfl⟩
  refine au (DA (wpAny_callSpecial?_slot (name:=bd "__next__") hT DU
   (n0 DU hT YA
    (Yt hh Z ok bt aR hz jX lq hl (λu hu=>⟨et hi ((zI bt).1 u hu),hs u hu⟩) λh' tk ws fX a1 a2 a3 a4 a5 a6=>aU ?_) (YB _))))
  have lt:∀{c o},s.heap.get? c=some o->s.heap.objs.size≠c:=λe=>fH (cR e)
  refine hQ s.heap.objs.size ws.toArray h' tk (fX) (cb _) ⟨_,a5,rfl,_,rfl⟩ ⟨a1,a2,⟨ws,a3,fX.length⟩,a4,λhc=> ?_⟩ λc o hc e=>a6 c o (λq=>hc (ao q (.head _))) (λq=>hc (ao q (.tail _ (.head _)))) (λu hu q=>hc (q▸ .tail _ (.tail _ (nj hu)))) e;rcases bq.mp hc with q | hc
  ·exact lt hz q
  rcases bq.mp hc with q | hc
  ·exact lt lq q
  refine aB (bF.mp hc) λu hu q=> ?_;obtain ⟨o,e⟩:=(ok u hu).live _ _ (hs u hu) u.I (ok u hu).self;exact lt e q.symm
 go:=λelts k pos i T s Q E hm hQ=>by
  obtain ⟨hz,jX,⟨os,lq,hl⟩,hs,hT⟩:=hm;exact wpAny_letOwnedTupleGo_zip hz λh' gA ik=>hQ h' ⟨gA,ik.extBut _ _ Z.TIz jX,⟨os,ik.extBut _ _ Z.TOz lq,hl⟩,λu hu=>(ok u hu).frame _ _ _ (hs u hu) λb hb o e=>ik.extBut _ _ (λq=>Z.zf u hu (ao q hb)) e⟩
   λc o hc e=>ik.extBut _ _ (λq=>hc (aa q (.head _))) e
 apart:=λi T h hm=>hm.2.2.2.2
 done:=λs Q E bZ hQ=>by
  obtain ⟨hz,jX,⟨os,lq,hl⟩,hs⟩:=bZ
  have hT:s.TypeIs (.ref z) "zip" :=⟨_,hz,rfl⟩
  refine au (DA (wpAny_callSpecial?_slot (name:=bd "__next__") hT DU
   (n0 DU hT YA
    (Yx hh Z ok aR hz jX lq hl (λu hu=>⟨(zI bt).1 u hu,hs u hu⟩) (zI bt).2 λh' tk e hk he=> ?_) (YB _))))
  refine aB (he) λo ho hc=>au (rx (T:= "StopIteration") (b:=true) ⟨o,ho,hc⟩ isSubtype_stop ?_);exact aU (hQ _ _ λc o hc e=>hk c o (λq=>hc (ao q (.head _))) (λq=>hc (aa q (.tail _ (.head _)))) (λu hu q=>hc (aa q (.tail _ (.tail _ (nj hu))))) e)
 self:=λi s Q E bZ hQ=>YC bZ.1 hQ
end
end
section
variable{prog:dN}{w:cO}{A:cA}{E:Value->al->Prop}{s:al}
theorem YD(I l:Nat)(bt:l≠I)(items:Array Value):DJ prog w I [I,l] items.size (λi v=>items[i]? =some v) (λi h=>h.IsListIter I l i/\h.IsList l items) where
 self:= .head _
 frame:=λJ J J st hk=>⟨st.1.at λo e=>hk I (by simp) o e,st.2.at λo e=>hk l (by simp) o e⟩
 live:=λi h st b hb=>by
  obtain ⟨⟨o,e,_⟩,⟨o2,e2,_⟩⟩:=st;simp only [bq,dJ,or_false] at hb
  rcases hb with rfl | rfl<;>exact ⟨_,by assumption⟩
 item:=λA i s Q E hi st hQ=>wpAny_nextOf_list_item st.1 st.2 (x:=items[i]) (by simp [hi]) λh' vC ik=>hQ _ h' s.toks (by simp [hi]) ⟨vC,st.2.extBut ik.extBut bt⟩ ik.1 λb o hb e=>ik.extBut b o hb e
 done:=λA s Q E hh st hE=>wpAny_nextOf_list_end hh st.1 st.2 (by simp) λh' e hk he=>hE h' e hk he
open PySem.W.KBw in
theorem YE(I:Nat)(b:Array UInt8)(t:Tok):DJ prog w I [I] b.size (λi v=>∃c u,b[i]? =some c/\v= .int (c.toNat:Int) u) (λi h=>IsBytesIter h I b t i) where
 self:= .head _
 frame:=λJ J J st hk=>aB st λo ho r=>⟨o,hk I (by simp) o ho,r⟩
 live:=λi h st b hb=>by refine aa (dL.mp hb) ?_;obtain ⟨o,e,_⟩:=st;exact ⟨o,e⟩
 item:=λA i s Q E hi st hQ=>by
  obtain ⟨o,ho,hc,hd⟩:=id st
  have hx:b[i]? =some b[i]:=by simp [hi]
  unfold rF;refine au (wpAny_callSpecial?_slot (name:=bd "__next__") (iter_typeIs st) slot_next
   (n0 slot_next (iter_typeIs st) entry_next ?_ (args_next _)))
  refine (?_:wpAny _ _ (field (.ref I) 0>>=_) _ _ s);refine au (gG ho hd (x:= .bytes b t) rfl ?_);refine (?_:wpAny _ _ (if (rL b t==Value.none)=true then _ else _) _ _ s);refine aa (if_neg (show ¬ ((rL b t==Value.none)=true) from ka)) (?_:wpAny _ _ (field (.ref I) 1>>=_) _ _ s);refine au (gG ho hd (x:= .int i 0) rfl ?_);refine au (dU (a:=b) rfl ?_);simp only [mf,hx];refine au (wpAny_setField ho hd (by simp) (au (zB (aU ⟨_,rfl,aU (hQ _ _ _ ⟨_,_,hx,rfl⟩ ?_ (mY ..).1 λc o hc e=>(mY ..).extBut c o hc e)⟩))));exact ⟨_,vy _ ho (Obj.isFreed_of_fields (YF hd _)),(Obj.cls_mapFields ..).trans hc,by
   rw [YF hd];simp [rawInt]⟩
 done:=λA s Q E hh st hE=>by
  obtain ⟨o,ho,hc,hd⟩:=id st
  have hx:b[b.size]? =none:=by simp
  unfold rF;refine au (wpAny_callSpecial?_slot (name:=bd "__next__") (iter_typeIs st) slot_next
   (n0 slot_next (iter_typeIs st) entry_next ?_ (args_next _)))
  refine (?_:wpAny _ _ (field (.ref I) 0>>=_) _ _ s);refine au (gG ho hd (x:= .bytes b t) rfl ?_);refine (?_:wpAny _ _ (if (rL b t==Value.none)=true then _ else _) _ _ s);refine aa (if_neg (show ¬ ((rL b t==Value.none)=true) from ka)) (?_:wpAny _ _ (field (.ref I) 1>>=_) _ _ s);refine au (gG ho hd (x:= .int b.size 0) rfl ?_);refine au (dU (a:=b) rfl ?_);simp only [mf,hx];refine au (jt (au (wpAny_setField ho hd (by simp) ?_)));refine (?_:wpAny _ _ (newExc (.type "StopIteration") []>>=_) _ _ _);refine au ?_;simp only [newExc,newTuple];refine au (qI ?_ (by size_fits));refine au (m:=firstArgMember _ _) (dU (a:=Value.none) (by first | rfl | (simp only [firstArgMember];rfl)) ?_);refine qI ?_ (by size_fits);refine (?_:wpAny _ _ (handled>>=_) _ _ _);refine au (wpAny_handled ?_);refine aa (show A.in1.handled=none from hh) (au (aU (wpAny_throw ?_)));exact hE _ _ (((mY ..).extBut.push _).push _) ⟨_,cV _ rfl,rfl⟩
noncomputable def p6(h:Heap)(os:List Obj):Heap:=os.foldl Heap.push h
theorem YG(os:List Obj):∀h:Heap,(p6 h os).objs.size=h.objs.size+os.length:=by
 induction os with
 | nil=>exact λJ=>rfl
 | cons o os ih=>exact λh=>(ih (h.push o)).trans (aa (oa ..) (qG ..))
theorem KN(os:List Obj):∀(h:Heap) b o,h.get? b=some o->(p6 h os).get? b=some o:=by
 induction os with
 | nil=>exact λJ J J e=>e
 | cons p os ih=>exact λh b o e=>ih _ b o (fq _ e)
theorem wI(os:List Obj):∀(h:Heap) (i:Nat) o,os[i]? =some o->o.isFreed=false->(p6 h os).get? (h.objs.size+i)=some o:=by
 induction os with
 | nil=>exact λJ J J e=>nn e
 | cons p os ih =>
  intro h i o e f;rcases i with _ | i
  ·cases aM e;exact KN os _ _ _ (cV _ f)
  ·have:=ih (h.push p) i o e f
   rw [oa] at this
   exact aa (show h.objs.size+(i+1)=h.objs.size+1+i from (qG ..).symm) this
def YH(prog:dN)(w:cO)(h:Heap)(x:Value)(o:Obj):Prop:=∀(A:cA) (E:Value->al->Prop) (s:al) (Q:Value->al->Prop),(∀b o,h.get? b=some o->s.heap.get? b=some o)->Q (.ref s.heap.objs.size) {s with heap:=s.heap.push o}->wpAny (model prog w) A (pyIter x) Q E s
def wJ(prog:dN)(w:cO)(h:Heap):List Value->List Obj->Prop
 | [],[]=>True
 | x::xs,o::os=>YH prog w h x o/\wJ prog w h xs os
 | _,_=>False
noncomputable def gQ(n k:Nat):List Value:=(gZ n k).map m1
theorem YI{h:Heap}{xs:List Value}:∀{os:List Obj} {s:al} {acc:Array Value} {Q:Array Value->al->Prop},wJ prog w h xs os->(∀b o,h.get? b=some o->s.heap.get? b=some o)->
  Q (acc++(gQ s.heap.objs.size os.length).toArray) {s with heap:=p6 s.heap os}->
  wpAny (model prog w) A (forIn xs acc λx cJ=>do let v<-holding cJ.toList (pyIter x);pure (ForInStep.yield (cJ.push v))) Q E s:=by
 induction xs with
 | nil =>
  intro os s acc Q hi hk hq;rcases os with _ | _
  ·simp only [Ji];exact aU (by simpa [gQ,p6] using hq)
  ·exact hi.elim
 | cons x xs ih =>
  intro os s acc Q hi hk hq;rcases os with _ | ⟨o,os⟩
  ·exact hi.elim
  simp only [pd];refine au (au (kt (hi.1 _ _ _ _ hk (aU ?_))));refine ih hi.2 (λb o e=>fq _ (hk b o e)) ?_;refine (?_:Q _ {s with heap:=p6 (s.heap.push o) os});refine aa (show (s.heap.push o).objs.size=s.heap.objs.size+1 from oa ..) ?_
  have e1:acc.push (m1 s.heap.objs.size)++(gQ (s.heap.objs.size+1) os.length).toArray=acc++(gQ s.heap.objs.size (os.length+1)).toArray:=by
   simp [gQ,DV]
  exact aa e1 hq
noncomputable abbrev mo(h:Heap)(os:List Obj):Heap:=p6 h (os++ [{cls:= .type "tuple",data:= .seq (gQ h.objs.size os.length).toArray},{cls:= .type "tuple",data:= .seq (cf os.length Value.none).toArray},
 {cls:= .type "zip",data:= .fields #[.none, .bool false, .bool false, .ref (h.objs.size+os.length), .ref (h.objs.size+os.length+1)]}])
theorem YJ{xs:List Value}{os:List Obj}(hi:wJ prog w s.heap xs os)(hl:os.length≤100){Q:rE->al->Prop}
  (hQ:Q (.done (.ret (.ref (s.heap.objs.size+os.length+2)))) {s with heap:=mo s.heap os}):wpAny (model prog w) A (fY.«zip.__new__» ⟨.type "zip" ::xs,[]⟩) Q E s:=by
 unfold fY.«zip.__new__»;refine au (m:=YK "zip" _) ?_;unfold YK;refine au (dU (a:=true) rfl ?_);refine dV rfl (au (dU sub_zip ?_));refine dV rfl (aU ?_);dsimp only;refine oq (by simp) (au ?_);unfold ahW;refine au (YI hi (λJ J e=>e) (aU ?_))
 have e0:(#[]++(gQ s.heap.objs.size os.length).toArray).toList=gQ s.heap.objs.size os.length:=by simp
 refine aa e0 ?_
 have gD:(gQ s.heap.objs.size os.length).length=os.length:=by simp [gQ]
 refine au (KF ?_ (by refine aa gD ?_;exact fc (ag hl (nb rfl))));refine au (KF ?_ (by refine aa (aC ..) (aa gD ?_);exact fc (ag hl (nb rfl))));refine au ?_;unfold ahX;refine qI ?_ (by show 5≤sizeLine+2;refine aa Ca ?_;decide);refine aU ?_
 have e1:(gQ s.heap.objs.size os.length).map (λJ=>Value.none)=cf os.length Value.none:=by
  exact aa DW (aa gD rfl)
 refine aa e1 ?_
 have s1:=YG os s.heap
 simp only [mo,p6,rM,mq,List.foldl_nil] at hQ
 simp only [oa,s1];exact hQ
theorem YL{xs:List Value}{os:List Obj}(DX:checkTypeCall "zip" ⟨xs,[]⟩=pure ())(DY:checkBuiltinCall "zip.__new__" ⟨.type "zip" ::xs,[]⟩=pure ())(ee:∀obj,argsOk "object.__init__" ⟨obj::xs,[]⟩)
  (hi:wJ prog w s.heap xs os) (hl:os.length≤100) (hQ:Q (.ref (s.heap.objs.size+os.length+2)) {s with heap:=mo s.heap os}):wpAny (model prog w) A (call (.type "zip") xs) Q E s:=by
 have hz:(mo s.heap os).get? (s.heap.objs.size+os.length+2)=some {cls:= .type "zip",data:= .fields #[.none, .bool false, .bool false, .ref (s.heap.objs.size+os.length), .ref (s.heap.objs.size+os.length+1)]}:=by
  have:=wI (os++ [{cls:= .type "tuple",data:= .seq (gQ s.heap.objs.size os.length).toArray},{cls:= .type "tuple",data:= .seq (cf os.length Value.none).toArray},
   {cls:= .type "zip",data:= .fields #[.none, .bool false, .bool false, .ref (s.heap.objs.size+os.length), .ref (s.heap.objs.size+os.length+1)]}]) s.heap (os.length+2) _ (by rw [pO (b6 ..)];simp;rfl) rfl
  exact this
 refine Ku (Q₁:=λobj aG=>obj= .ref (s.heap.objs.size+os.length+2)/\aG={s with heap:=mo s.heap os}) KO DX Yc ?_ λobj aG bM=> ?_
 ·refine J8 ?_
  show wpAny _ A.in1.in1 (do checkBuiltinCall "zip.__new__" ⟨.type "zip" ::xs,[]⟩;again (.builtin "zip.__new__" ⟨.type "zip" ::xs,[]⟩)) _ _ s
  refine au (dU DY (aU ⟨wx (by decide +kernel) _,wE F.entry_zip_new ?_⟩));exact aa (wy (by decide +kernel) _) (YJ hi hl ⟨rfl,rfl⟩)
 ·obtain ⟨rfl,rfl⟩:=bM
  have hT:({s with heap:=mo s.heap os}:al).TypeIs (.ref (s.heap.objs.size+os.length+2)) "zip" :=⟨_,hz,rfl⟩
  exact ⟨hT,ee _,Yd KO.init.lookup KO.made (by decide) prog w A.in1 _ _ ⟨hT,rfl,hQ⟩⟩
end
section
variable {h:Heap}
inductive ZK where
 | list (l:Nat) (cs:List Value)
 | bytes (b:List UInt8) (t:Tok)
noncomputable def ZK.obj:ZK->Obj
 | .list l _=>{cls:= .type "list_iterator",data:= .fields #[.ref l, .int 0 0]}
 | .bytes b t=>{cls:= .type "bytes_iterator",data:= .fields #[.bytes b.toArray t, .int 0 0]}
noncomputable def ZK.val:ZK->Value
 | .list l _=> .ref l
 | .bytes b t=> .bytes b.toArray t
noncomputable def ZK.sub(I:Nat):ZK->Sub
 | .list l cs=>⟨I,[I,l],cs.toArray.size,λi v=>cs.toArray[i]? =some v,λi h=>h.IsListIter I l i/\h.IsList l cs.toArray⟩
 | .bytes b t=>⟨I,[I],b.toArray.size,λi v=>∃c u,b.toArray[i]? =some c/\v= .int (c.toNat:Int) u,λi h=>Tj h I b.toArray t i⟩
def ZK.at(U:Nat->Prop)(h:Heap):ZK×List ab->Prop
 | (.list l cs,as)=>U l/\h.IsList l cs.toArray/\aN U h as cs
 | (.bytes b _,as)=>as=dZ b
noncomputable def ox:Nat->List ZK->List Sub
 | _,[]=> []
 | n,k::ks=>k.sub n::ox (n+1) ks
theorem zJ(k:ZK)(I:Nat):(k.sub I).I=I:=by cases k<;>rfl
theorem KP(ks:List ZK):∀n:Nat,(ox n ks).length=ks.length:=by
 induction ks with
 | nil=>exact λJ=>rfl
 | cons k ks ih=>exact λn=>congrArg (λz=>z +1) (ih (n+1))
theorem YM(ks:List ZK):∀n:Nat,(ox n ks).map (λu=>m1 u.I)=gQ n ks.length:=by
 induction ks with
 | nil=>exact λJ=>rfl
 | cons k ks ih =>
  intro n
  have:=ih (n+1)
  simp only [gQ] at this
  simp [ox,gQ,DV,zJ,this]
theorem KQ{ks:List ZK}:∀{n:Nat} {u:Sub},u∈ox n ks->∃(i:Nat) (k:ZK),ks[i]? =some k/\u=k.sub (n+i):=by
 induction ks with
 | nil=>exact λ{_ _} h=>absurd h dJ
 | cons k ks ih =>
  intro n u h;rcases bq.mp h with rfl | h
  ·exact ⟨0,k,rfl,rfl⟩
  ·exact jL (ih h) λi k' e a0=>⟨i+1,k',e,a0.trans (congrArg (λm=>ZK.sub m k') (qG ..))⟩
theorem zK{k:ZK}{I:Nat}{b:Nat}(h:b∈(k.sub I).fp):b=I∨∃l cs,k= .list l cs/\b=l:=by
 cases k with
 | list l cs =>
  simp only [ZK.sub,bq,dJ,or_false] at h
  exact h.imp id λe=>⟨l,cs,rfl,e⟩
 | bytes b t =>
  simp only [ZK.sub,bq,dJ,or_false] at h
  exact .inl h
theorem YN{N:Nat}{ks:List ZK}:∀{n:Nat},N≤n->(∀k∈ks,∀l cs,k= .list l cs->l<N)->(ox n ks).Pairwise λu v=>u.I∉v.fp/\v.I∉u.fp:=by
 induction ks with
 | nil=>exact λJ J=> .nil
 | cons k ks ih =>
  intro n hn hl;refine p4.mpr ⟨λv hv=> ?_,ih (n:=n+1) (mi hn) λx hx=>hl x (.tail _ hx)⟩;refine jL (KQ hv) λi k' e a0=> ?_;subst a0;simp only [zJ];refine ⟨λq=> ?_,λq=> ?_⟩
  ·rcases zK q with q | ⟨l,cs,rfl,r⟩
   ·exact absurd q (dz (b6 ..))
   ·exact absurd (hl _ (.tail _ (cr e)) l cs rfl) (dA.mpr (ao r hn))
  ·rcases zK q with q | ⟨l,cs,rfl,r⟩
   ·exact absurd q (fH (b6 ..))
   ·exact absurd (et (hl _ (.head _) l cs rfl) hn) (dA.mpr (ao r (ag (l6 n) (b6 ..))))
section
variable{X:Cx}{n:Nat}{L:Nat}{ae:List Loc}
theorem YO{σ κ}{a:Nat}(G:bk X σ κ s)(q:s.heap.objs.size≤a):aj σ κ a:=nY λh=>iE (G.lt _ h) λJ e=>absurd (cR e) (dA.mpr q)
theorem YQ{U:Nat->Prop}{zs:List (ZK×List ab)}:(∀z∈zs,ZK.at U h z)->wJ X.prog X.w h (zs.map (λz=>z.1.val)) (zs.map (λz=>z.1.obj)):=by
 induction zs with
 | nil=>exact λJ=>trivial
 | cons z zs ih =>
  obtain ⟨k,as⟩:=z;refine λhz=>⟨?_,ih λz gA=>hz z (.tail _ gA)⟩
  have h0:=hz (k,as) (.head _)
  cases k with
  | list l cs =>
   intro A E s Q hk q;obtain ⟨_,⟨o,e,r⟩,_⟩:=h0;exact Bs ⟨o,hk _ _ e,r⟩ q
  | bytes b t=>intro A E s Q hk q;exact Ti q
theorem YR{U:Nat->Prop}{j:Nat}{k:ZK}{as:List ab}{v:Value}(h0:ZK.at U h (k,as))(hj:j<as.length)(hv:(k.sub m).P j v):am U h (as[j]?.getD .none) v:=by
 rw [bE hj];rcases k with ⟨l,cs⟩ | ⟨b,t⟩
 ·refine aB (h0.2.2.get (bE hj)) λy e ry=> ?_
  have hv:cs.toArray[j]? =some v:=hv
  rw [pG,e] at hv
  exact ao (aM hv) ry
 ·obtain rfl:as=dZ b:=h0;refine jL hv λc u e a0=> ?_;subst a0;rw [pG] at e
  rw [<-TN (a:=(dZ b)[j]) (b:=ab.none),<-bE hj,dZ,cW,e];exact .int _ _
theorem YS{U:Nat->Prop}{j:Nat}{zs:List (ZK×List ab)}:∀{m:Nat} {vs:List Value},(∀z∈zs,ZK.at U h z/\j<z.2.length)->p0 j (ox m (zs.map (λz=>z.1))) vs->aN U h (zs.map λz=>z.2[j]?.getD .none) vs:=by
 induction zs with
 | nil =>
  intro m vs _ hv;rcases vs with _ | _
  ·exact .nil
  ·exact hv.elim
 | cons z zs ih =>
  intro m vs hz hv;rcases vs with _ | ⟨v,vs⟩
  ·exact hv.elim
  have h0:=hz z (.head _)
  exact .cons (YR h0.1 h0.2 hv.1) (ih (λz gA=>hz z (.tail _ gA)) hv.2)
structure ZF(h H:Heap)(U:Nat->Prop)(zs:List (ZK×List ab))(N m:Nat)(us:List Sub):Prop where
 at_:∀z∈zs,ZK.at U h z
 mem:∀u∈us,∃(i:Nat) (k:ZK) (as:List ab),zs[i]? =some (k,as)/\u=k.sub (N+i)
 has:∀{i:Nat} {z},zs[i]? =some z->z.1.sub (N+i)∈us
 lt:∀{i:Nat} {z},zs[i]? =some z->i<m
 low:∀{i:Nat} {l cs as},zs[i]? =some (.list l cs,as)->l<N
 ext:∀b o,h.get? b=some o->H.get? b=some o
 g0:H.get? (N+m)=some {cls:= .type "tuple",data:= .seq (gQ N m).toArray}
 g1:H.get? (N+m+1)=some {cls:= .type "tuple",data:= .seq (cf m Value.none).toArray}
 g2:mj H (N+m+2) (N+m) (N+m+1) .none
 gi:∀{i:Nat} {z},zs[i]? =some z->H.get? (N+i)=some z.1.obj
section
variable{h H:Heap}{U:Nat->Prop}{zs:List (ZK×List ab)}{N m:Nat}{us:List Sub}(F:ZF h H U zs N m us)
include F
theorem ZF.ok:∀u∈us,u.ok X.prog X.w:=λu hu=>by
 refine o0 (F.mem u hu) λi k as e a0=> ?_;subst a0;cases k with
 | list l cs=>exact YD _ _ (dz (et (F.low e) (b6 N i))) _
 | bytes b t=>exact YE _ _ _
theorem ZF.old:∀u∈us,∀b∈u.fp,b<N+m:=λu hu b hb=>by
 obtain ⟨i,k,as,e,rfl⟩:=F.mem u hu;rcases zK hb with rfl | ⟨l,cs,rfl,rfl⟩
 ·exact wK (F.lt e) N
 ·exact et (F.low e) (b6 N m)
theorem ZF.ap(X:Cx)(pw:us.Pairwise λu v=>u.I∉v.fp/\v.I∉u.fp):pZ (N+m+2) (N+m) (N+m+1) us :=
 ⟨dz (pK (jr (N+m))),dz (jr (N+m+1)),dz (jr (N+m)),λu h q=>absurd (F.old u h _ q) (dA.mpr (b6 _ 2)),λu h q=>absurd (F.old u h _ q) (dA.mpr (l6 _)),λu h q=>absurd (q▸F.old u h _ (F.ok (X:=X) u h).self) (iL _),pw⟩
theorem ZF.wr:∀a∈(N+m+2)::(N+m+1)::us.map (λz=>z.I),N≤a/\a≠N+m/\∃o,H.get? a=some o:=λa ha=>by
 rcases bq.mp ha with rfl | ha
 ·exact ⟨ag (b6 N m) (b6 _ 2),fH (pK (jr (N+m))),_,F.g2⟩
 rcases bq.mp ha with rfl | ha
 ·exact ⟨ag (b6 N m) (l6 _),fH (jr (N+m)),_,F.g1⟩
 refine aB (bF.mp ha) λu hu a0=> ?_;subst a0;refine o0 (F.mem u hu) λi k as e a0=> ?_;subst a0;exact aa (zJ ..) (⟨b6 N i,dz (wK (F.lt e) N),_,F.gi e⟩)
theorem ZF.cnt{i:Nat}{k:ZK}{as:List ab}(e:zs[i]? =some (k,as)):(k.sub (N+i)).n=as.length:=by
 have h:=F.at_ _ (cr e)
 cases k with
 | list l cs=>exact h.2.2.length.symm
 | bytes b t=>have h:=h;refine aa h ?_;exact (aC _).symm
theorem ZF.min(bt:us≠ [])(eO:∀z∈zs,k≤z.2.length)(rN:∃z∈zs,z.2.length=k):p5 us=k:=by
 obtain ⟨a,u,tY,eu⟩:=zI bt;refine yI ?_ ?_
 ·refine aB rN λz gA ez=> ?_;obtain ⟨i,e⟩:=p7.mp gA;exact ag (a _ (F.has e)) (bS ((F.cnt (k:=z.1) (as:=z.2) e).trans ez))
 ·refine o0 (F.mem u tY) λi k as e a0=> ?_;subst a0;exact ao eu (aa (F.cnt e) (eO _ (cr e)))
omit F
theorem DZ{I S A:Nat}{b:Nat}{P:Nat->Prop}(hb:b∈I::S::A::us.flatMap (λz=>z.fp))(h1:P I)(h2:P S)(h3:P A)(h4:∀u∈us,∀b∈u.fp,P b):P b:=by
 rcases bq.mp hb with rfl | hb
 ·exact h1
 rcases bq.mp hb with rfl | hb
 ·exact h2
 rcases bq.mp hb with rfl | hb
 ·exact h3
 exact aB (KM.mp hb) λu hu hb=>h4 u hu b hb
end
theorem YT{zs:List (ZK×List ab)}{out:List ab}{κ s}{H:Heap}{N:Nat}{us:List Sub}(hN:s.heap.objs.size=N)(rel:Rel X L ae st κ s)(F:ZF s.heap H (aj st.σ κ) zs N m us)(pw:us.Pairwise λu v=>u.I∉v.fp/\v.I∉u.fp)(KR:us.length=m)(hm:m≤100)(bt:us≠ [])(eO:∀z∈zs,out.length≤z.2.length)(rN:∃z∈zs,z.2.length=out.length)
  (YU:us.map (λu=>m1 u.I)=gQ N m) (YV:∀{j vs},(∀z∈zs,j<z.2.length)->p0 j us vs->aN (aj st.σ κ) s.heap (zs.map λz=>z.2[j]?.getD .none) vs)
  (iq:∀(j:Nat) x,out[j]? =some x->x= .tuple (zs.map λz=>z.2[j]?.getD .none)) {A} :
  wpAny X.M A (pyIter (.ref (N+m+2))) (jT X L ae st κ s.heap true [] out) (λJ J=>False) {s with heap:=H}:=by
 refine YC F.g2 ?_
 have lo:∀a,N≤a->s.heap.objs.size≤a:=λa h=>aa hN h
 refine sM (rel.tag (s':={s with heap:=H}) ((N+m+2)::(N+m+1)::us.map (λz=>z.I)) (N+m+2) (.head _) (λa q=>⟨lo a (F.wr a q).1,(F.wr a q).2.2⟩) F.ext rfl rfl) λrr e h1 h2 h3=> ?_
 have ok:=F.ok (X:=X)
 refine ⟨_,_,rfl,Cq (lo _ (F.wr _ (.head _)).1),rr,e,eF.pair (i:=0) (λA hh=>(F.min bt eO rN)▸Yz hh (F.ap X pw) ok bt (aa KR hm)) ?_ ?_ ⟨F.g2, ?_,⟨cf m .none,F.g1,aH pP KR rfl⟩,λu tY=> ?_⟩ rfl (da _) (λb hb=>if_pos hb) ?_ ?_,h2,h1,⟨_,F.g2⟩,F.ext⟩
 ·rintro j h ⟨q1,q2,⟨os,q3,_⟩,q4⟩ b hb
  exact DZ (P:=λb=>∃o,h.get? b=some o) hb ⟨_,q1⟩ ⟨_,q2⟩ ⟨_,q3⟩ λu hu b hb=>(ok u hu).live _ _ (q4 u hu) b hb
 ·rintro j T h ⟨q1,q2,⟨os,q3,_⟩,q4,_⟩ b hb
  exact DZ (P:=λb=>∃o,h.get? b=some o) hb ⟨_,q1⟩ ⟨_,q2⟩ ⟨_,q3⟩ λu hu b hb=>(ok u hu).live _ _ (q4 u hu) b hb
 ·intro b hb
  have im:=YO rel.g (lo (N+m) (b6 N m))
  refine DZ (P:=λb=>b∈(N+m+2)::(N+m+1)::us.map (λz=>z.I)∨aj st.σ (fS κ ((N+m+2)::(N+m+1)::us.map (λz=>z.I)) (N+m+2)) b) hb (.inl (.head _)) (.inr ⟨im.1, ?_⟩) (.inl (.tail _ (.head _))) λu tY b hb=> ?_
  ·exact aa (show fS κ _ _ (N+m)=κ (N+m) from if_neg λq=>(F.wr _ q).2.1 rfl) im.2
  refine o0 (F.mem u tY) λi k as e' a0=> ?_;subst a0;rcases zK hb with rfl | ⟨l,cs,rfl,rfl⟩
  ·exact .inl (.tail _ (.tail _ (bF.mpr ⟨_,tY,zJ _ _⟩)))
  ·obtain ⟨ul,⟨o,g,r⟩,_⟩:=F.at_ _ (cr e');exact .inr (e.bb _ o ul g).1
 ·rintro j x vals q hv
  have hj:=(dr.mp q).1
  exact ⟨_,iq j x q,(YV (λz gA=>et hj (eO z gA)) hv).mono e.bb⟩
 ·refine (?_:fy _ _ _);exact aa YU F.g0
 ·refine o0 (F.mem u tY) λi k as e a0=> ?_;subst a0
  have ge:=F.gi e
  cases k with
  | list l cs =>
   obtain ⟨_,⟨o,g,r⟩,_⟩:=F.at_ _ (cr e);exact ⟨⟨_,ge,rfl,rfl⟩,⟨o,F.ext _ _ g,r⟩⟩
  | bytes b t=>exact ⟨_,ge,rfl,rfl⟩
theorem YW{os:List Obj}(hm:os.length=m):(mo h os).get? (h.objs.size+m)=some {cls:= .type "tuple",data:= .seq (gQ h.objs.size m).toArray}/\(mo h os).get? (h.objs.size+m+1)=some {cls:= .type "tuple",data:= .seq (cf m Value.none).toArray}/\mj (mo h os) (h.objs.size+m+2) (h.objs.size+m) (h.objs.size+m+1) .none:=by
 subst hm;exact ⟨wI _ h os.length _ (by rw [pO (cb _),TJ];rfl) rfl,wI _ h (os.length+1) _ (by rw [pO (b6 _ 1),nk];rfl) rfl,wI _ h (os.length+2) _ (by rw [pO (b6 _ 2),nk];rfl) rfl⟩
theorem YX{ks:List ZK}:∀{n i:Nat} {k},ks[i]? =some k->k.sub (n+i)∈ox n ks:=by
 induction ks with
 | nil=>exact λe=>nn e
 | cons k0 ks ih =>
  intro n i k e;rcases i with _ | i
  ·obtain rfl:=aM e;exact .head _
  ·have:=ih (n:=n+1) (i:=i) (k:=k) e;rw [j9,lg 1 i] at this;exact .tail _ this
theorem YY{zs:List (ZK×List ab)}{out:List ab}{κ s}(bt:zs≠ [])(aR:zs.length≤100)(rel:Rel X L ae st κ s)(hz:∀z∈zs,ZK.at (aj st.σ κ) s.heap z)(eO:∀z∈zs,out.length≤z.2.length)(rN:∃z∈zs,z.2.length=out.length)
  (iq:∀(j:Nat) x,out[j]? =some x->x= .tuple (zs.map λz=>z.2[j]?.getD .none)) {A} :
  wpAny X.M A (pyIter (.ref (s.heap.objs.size+zs.length+2))) (jT X L ae st κ s.heap true [] out) (λJ J=>False) {s with heap:=mo s.heap (zs.map (λz=>z.1.obj))}:=by
 have hl:∀{z l cs},z∈zs->z.1= .list l cs->l<s.heap.objs.size:=λ{z l cs} gA e=>by
  have h:=hz z gA
  obtain ⟨k,as⟩:=z;obtain rfl:k= .list l cs:=e;exact h.2.1.elim λo g=>cR g.1
 have A:=YW (h:=s.heap) (os:=zs.map (λz=>z.1.obj)) (m:=zs.length) (aC _)
 have lt:∀{i:Nat} {z},zs[i]? =some z->i<zs.length:=λe=>(dr.mp e).1
 have F:ZF s.heap (mo s.heap (zs.map (λz=>z.1.obj))) (aj st.σ κ) zs s.heap.objs.size zs.length (ox s.heap.objs.size (zs.map (λz=>z.1))):={
  at_:=hz
  mem:=λu hu=>(KQ hu).elim λi h=>h.elim λk h=>by
   have e:=h.1
   rw [cW] at e
   exact aB (lQ.mp e) λz e1 e2=>⟨i,k,z.2,F8 e1 e2 rfl,h.2⟩
  has:=λ{i z} e=>YX (by rw [cW,e];rfl)
  lt:=lt
  low:=λe=>hl (cr e) rfl
  ext:=λb o e=>KN _ _ _ _ e
  g0:=A.1
  g1:=A.2.1
  g2:=A.2.2
  gi:=λ{i z} e=>wI _ _ i _ (by rw [m8 (aa (aC ..) (lt e)),cW,e];rfl) (by rcases z with ⟨⟨⟩,_⟩<;>rfl)}
 exact YT rfl rel F (YN (cb _) λk hk l cs e=>(bF.mp hk).elim λz h=>hl h.1 (h.2.trans e)) (aa (KP ..) (aa (aC ..) rfl)) aR (λq=>bt (y6.mp (by have:=congrArg rO q;rw [KP,aC] at this;exact this))) eO rN (aa (YM ..) (aa (aC ..) rfl)) (λhj hv=>YS (λz h=>⟨hz z h,hj z h⟩) hv) iq
end
end
theorem YZ(a b c:Value):checkTypeCall "zip" ⟨[a,b,c],[]⟩=pure ():=by kernel_rfl
theorem Y0(a b c:Value):checkBuiltinCall "zip.__new__" ⟨[.type "zip",a,b,c],[]⟩=pure ():=by kernel_rfl
theorem Y1(a b c d:Value):argsOk "object.__init__" ⟨[a,b,c,d],[]⟩:=by
 unfold argsOk;rw [signature?_of (id:= "object.__init__") (n:= ['_','_','t','i','n','i','_','_']) (o:= ['t','c','e','j','b','o']) (by kernel_rfl) F.owner_object];kernel_rfl
theorem Y2(a:List ab):∀(b:List ab) (j:Nat) x,(qW a b)[j]? =some x->x= .tuple [a[j]?.getD .none,b[j]?.getD .none]:=by
 induction a with
 | nil=>exact λJ J J=>nn
 | cons p a ih =>
  intro b j x h;rcases b with _ | ⟨q,b⟩
  ·exact nn h
  ·rcases j with _ | j
   ·exact (aM h).symm
   ·exact ih b j x h
theorem Y3(a:List ab):∀(b c:List ab) (j:Nat) x,(tw a b c)[j]? =some x->x= .tuple [a[j]?.getD .none,b[j]?.getD .none,c[j]?.getD .none]:=by
 induction a with
 | nil=>exact λJ J J J=>nn
 | cons p a ih =>
  intro b c j x h;rcases b with _ | ⟨q,b⟩
  ·exact nn h
  rcases c with _ | ⟨r,c⟩
  ·exact nn h
  ·rcases j with _ | j
   ·exact (aM h).symm
   ·exact ih b c j x h
theorem KS(a b:List ab):(qW a b).length=min a.length b.length:=D0
theorem KT(a:List ab):∀(b c:List ab),(tw a b c).length=min a.length (min b.length c.length):=by
 induction a with
 | nil=>exact λJ J=>(Dr _).symm
 | cons p a ih =>
  intro b c;rcases b with _ | ⟨q,b⟩
  ·refine (?_:0=min _ (min 0 _));rewrite [Dr];exact aa (KU ..) rfl
  rcases c with _ | ⟨r,c⟩
  ·refine (?_:0=min _ (min _ 0));rw [KU,KU]
  ·exact (congrArg (λz=>z +1) (ih b c)).trans (aa nS (aa nS (aa nS (aa (Y4 ..) (aa (Y4 ..) rfl)))))
theorem D3(a b:Nat):a=min a b∨b=min a b:=(wB a b).elim (λq=> .inl (gO q).symm) λq=> .inr (pX q).symm
def nl(X:Cx)(n:Nat)(L:Addr)(ae:List Loc)(st:St)(κ:bI)(s:al)(Z:List ab->Prop)(ys:List Value):Prop :=
 ∀A,cG n A->ai X.M A (call (.type "zip") ys) (λy s1=>ai X.M A (pyIter y) (λy s2=>∃zs,Z zs/\jT X L ae st κ s.heap true [] zs y s2) (λJ J=>False) s1) (λJ J=>False) s
section
variable{X:Cx}{n:Nat}{L:Addr}{ae:List Loc}{st:St}{κ:bI}{s:al}{Z:List ab->Prop}(rel:Rel X L ae st κ s)
include rel
theorem KV{zs:List (ZK×List ab)}{out:List ab}(bt:zs≠ [])(aR:zs.length≤100)(hz:∀z∈zs,ZK.at (aj st.σ κ) s.heap z)(eO:∀z∈zs,out.length≤z.2.length)(rN:∃z∈zs,z.2.length=out.length)
  (iq:∀(j:Nat) x,out[j]? =some x->x= .tuple (zs.map λz=>z.2[j]?.getD .none)) (DX:checkTypeCall "zip" ⟨zs.map (λz=>z.1.val),[]⟩=pure ()) (DY:checkBuiltinCall "zip.__new__" ⟨.type "zip" ::zs.map (λz=>z.1.val),[]⟩=pure ()) (ee:∀obj,argsOk "object.__init__" ⟨obj::zs.map (λz=>z.1.val),[]⟩) (hZ:Z out):nl X n L ae st κ s Z (zs.map (λz=>z.1.val)):=by
 intro A hr;refine bc (YL DX DY ee (YQ hz) (by refine aa (aC ..) ?_;exact aR) ?_);exact aa (aC ..) (bc (JS (YY bt aR rel hz eO rN iq) (λy s2 m=>⟨out,hZ,m⟩) λJ J x=>x))
theorem KW{p q:ZK×List ab}(hp:ZK.at (aj st.σ κ) s.heap p)(hq:ZK.at (aj st.σ κ) s.heap q)(h:Z (qW p.2 q.2)):nl X n L ae st κ s Z [p.1.val,q.1.val] :=
 KV rel (zs:= [p,q]) (DT _ _) (by show D4 _≤100;exact sO rfl) (mr.mpr ⟨hp,D6.mpr hq⟩) (KS p.2 q.2▸mr.mpr ⟨kB ..,D6.mpr (jW ..)⟩)
  (KS p.2 q.2▸(D3 _ _).elim (λe=>⟨_, .head _,e⟩) λe=>⟨_, .tail _ (.head _),e⟩) (Y2 _ _) (F.typeCall_zip_2 _ _) (F.newCall_zip_2 _ _) (λobj=>F.args_object_init_3 obj _ _) h
theorem Y5{p q r:ZK×List ab}(hp:ZK.at (aj st.σ κ) s.heap p)(hq:ZK.at (aj st.σ κ) s.heap q)(hr:ZK.at (aj st.σ κ) s.heap r)(h:Z (tw p.2 q.2 r.2)):nl X n L ae st κ s Z [p.1.val,q.1.val,r.1.val] :=
 KV rel (zs:= [p,q,r]) (DT _ _) (by show D4 _≤100;exact sO rfl) (mr.mpr ⟨hp,mr.mpr ⟨hq,D6.mpr hr⟩⟩)
  (KT p.2 q.2 r.2▸mr.mpr ⟨kB ..,mr.mpr ⟨ag (jW ..) (kB ..),D6.mpr (ag (jW ..) (jW ..))⟩⟩)
  (KT p.2 q.2 r.2▸(D3 p.2.length (min q.2.length r.2.length)).elim (λe=>⟨_, .head _,e⟩) λe=>(D3 q.2.length r.2.length).elim (λe'=>⟨_, .tail _ (.head _),e'.trans e⟩) λe'=>⟨_, .tail _ (.tail _ (.head _)),e'.trans e⟩)
  (Y3 _ _ _) (YZ _ _ _) (Y0 _ _ _) (λobj=>Y1 obj _ _ _) h
theorem Y6{a b:ab}{x:Value}(hx:am (aj st.σ κ) s.heap a x)(hy:am (aj st.σ κ) s.heap b y)(h:yq [a,b] Z):nl X n L ae st κ s Z [x,y]:=by
 rcases a with ⟨⟩<;>first | exact h.elim | skip
 ·refine pq.of (C:=λb=>am (aj st.σ κ) s.heap b y->nl X n L ae st κ s Z [x,y]) h (λb h hy=> ?_) hy;obtain ⟨t,rfl⟩:=hx.inv;obtain ⟨u,rfl⟩:=hy.inv;exact KW rel (p:=(.bytes _ t,dZ _)) (q:=(.bytes _ u,dZ _)) rfl rfl h
 ·refine kW.of (C:=λb=>am (aj st.σ κ) s.heap b y->nl X n L ae st κ s Z [x,y]) h (λb h hy=> ?_) hy;obtain ⟨l1,c1,rfl,u1,i1,r1⟩:=hx.inv;obtain ⟨l2,c2,rfl,u2,i2,r2⟩:=hy.inv;exact KW rel (p:=(.list l1 c1,_)) (q:=(.list l2 c2,_)) ⟨u1,i1,r1⟩ ⟨u2,i2,r2⟩ h
theorem Y7{a b c:ab}{x z:Value}(hx:am (aj st.σ κ) s.heap a x)(hy:am (aj st.σ κ) s.heap b y)(hz:am (aj st.σ κ) s.heap c z)(h:yq [a,b,c] Z):nl X n L ae st κ s Z [x,y,z]:=by
 refine kW.of (C:=λa=>am (aj st.σ κ) s.heap a x->nl X n L ae st κ s Z [x,y,z]) h (λa h hx=> ?_) hx;refine kW.of (C:=λb=>am (aj st.σ κ) s.heap b y->nl X n L ae st κ s Z [x,y,z]) h (λb h hy=> ?_) hy;refine kW.of (C:=λc=>am (aj st.σ κ) s.heap c z->nl X n L ae st κ s Z [x,y,z]) h (λc h hz=> ?_) hz;obtain ⟨l1,c1,rfl,u1,i1,r1⟩:=hx.inv;obtain ⟨l2,c2,rfl,u2,i2,r2⟩:=hy.inv;obtain ⟨l3,c3,rfl,u3,i3,r3⟩:=hz.inv;exact Y5 rel (p:=(.list l1 c1,_)) (q:=(.list l2 c2,_)) (r:=(.list l3 c3,_)) ⟨u1,i1,r1⟩ ⟨u2,i2,r2⟩ ⟨u3,i3,r3⟩ h
end
theorem D7{X:Cx}{n:Nat}:m7 X n where
 zip:=by
  intro L ae st κ s vs ys Z h rel hv;rcases vs with _ | ⟨a,_ | ⟨b,_ | ⟨c,_ | ⟨d,r⟩⟩⟩⟩<;>first | exact h.elim | skip
  ·obtain ⟨x,ys,rfl,h1,hv⟩:=hv.cons_inv;obtain ⟨y,ys,rfl,h2,hv⟩:=hv.cons_inv;cases hv.nil_inv;exact Y6 rel h1 h2 h
  ·obtain ⟨x,ys,rfl,h1,hv⟩:=hv.cons_inv;obtain ⟨y,ys,rfl,h2,hv⟩:=hv.cons_inv;obtain ⟨z,ys,rfl,h3,hv⟩:=hv.cons_inv;cases hv.nil_inv;exact Y7 rel h1 h2 h3 h
section
variable{X:Cx}
theorem Y8{h:Heap}{es:List DictEntry}(r:gv U h fs es):aN U h (fs.map (λz=>z.2)) (es.map (λz=>z.val)) :=
 r.ind (P:=λfs es=>aN U h (fs.map (λz=>z.2)) (es.map (λz=>z.val))) .nil λ{x v y t hs fs es} a _ ih=>VR.cons (vs:=fs.map (λz=>z.2)) (xs:=es.map (λz=>z.val)) a ih
theorem Y9{U':Addr->Prop}{h h':Heap}{es:List DictEntry}(r:gv U h fs es):aN U' h' vs (es.map (λz=>z.val))->gv U' h' ((fs.map (λz=>z.1)).zip vs) es :=
 r.ind (P:=λfs es=>∀vs,aN U' h' vs (es.map (λz=>z.val))->gv U' h' ((fs.map (λz=>z.1)).zip vs) es) (λJ J=> .xW) (λJ J ih vs r'=>by
  rcases vs with _ | ⟨v,vs⟩
  ·exact p8 r'.length
  exact eR r'.cons_inv λy zs e r1 r2=> .uS ((congrArg (am U' h' v) (tO e).1).mpr r1) (ih vs ((congrArg (aN U' h' vs) (tO e).2).mpr r2))) vs
end
section
variable{X:Cx}{n:Nat}
abbrev jy(X:Cx)(σ:aq)(κ:bI)(s:al)(K:ab->aq->Prop)(z:Value)(s':al):Prop:=BK X σ κ s.heap K z s'
theorem jy.ext{K:ab->aq->Prop}{z:Value}(G:bk X σ κ s)(k:∀b o,s.heap.get? b=some o->s'.heap.get? b=some o)(ho:s'.os=s.os)(hg:s'.gens=s.gens)(hv:am (aj σ κ) s'.heap v z)(hK:K v σ):jy X σ κ s K z s' :=
 ⟨v,σ,κ,G.ext k ho hg, .ext k,hv,hK⟩
theorem jy.same{K:ab->aq->Prop}{z:Value}(G:bk X σ κ s)(hh:s'.heap=s.heap)(ho:s'.os=s.os)(hg:s'.gens=s.gens)(hv:am (aj σ κ) s.heap v z)(hK:K v σ):jy X σ κ s K z s' :=
 .ext G (λb o e=>hh▸e) ho hg (hh▸hv) hK
theorem D8{f:Value}(hf:∀a,f≠ .ref a){args:List ab}{K:ab->aq->Prop}
  (h:∀A κ s ys,cG n A->bk X σ κ s->aN (aj σ κ) s.heap args ys->ai X.M A (call f ys) (jy X σ κ s K) (λJ J=>False) s):az X n (.raw f) args [] K σ:= .mk λA κ s y ys dE hr G hy hv hk=>by
 cases hy.bQ;refine ⟨⟨.machine,λA' Q E q=> ?_⟩,h A κ s ys hr G hv⟩;rcases f with ⟨⟩<;>first | exact aY q | exact absurd rfl (hf _)
def KX(vs:List ab)(σ:aq)(K:ab->aq->Prop):Prop:=K (.list vs) σ∨∀a,σ a=none->K (.ref a) (σ.set a (.list vs))
theorem jy.fresh{K:ab->aq->Prop}(G:bk X σ κ s)(ha:a=s.heap.objs.size)(k:∀b o,s.heap.get? b=some o->s'.heap.get? b=some o)(ho:s'.os=s.os)(hg:s'.gens=s.gens)
  (hl:gH s'.heap a ys.toArray) (hv:aN (aj σ κ) s.heap vs ys) (hK:KX vs σ K):jy X σ κ s K (.ref a) s':=by
 subst ha;rcases hK with hK | hK
 ·exact .ext G k ho hg (.list (iK G) hl.list (hv.mono (gI k))) hK
 ·have bx:∃ob,s'.heap.get? s.heap.objs.size=some ob:=aB hl λo e J=>⟨o,e⟩
  exact ⟨_,_,κ,G.nZ (o:= .list vs) k bx ho hg ⟨ys,hl,hv.mono (B8 k)⟩, .nZ k, .raw _,hK _ (iK G).1⟩
theorem jy.own{K:ab->aq->Prop}(G:bk X σ κ s)(k:∀b ob,s.heap.get? b=some ob->s'.heap.get? b=some ob)(bx:∃ob,s'.heap.get? s.heap.objs.size=some ob)(ho:s'.os=s.os)(hg:s'.gens=s.gens)
  (jn:pi (aj (σ.set s.heap.objs.size o) κ) κ s'.heap s.heap.objs.size o) (hK:∀a,σ a=none->K (.ref a) (σ.set a o)):jy X σ κ s K (.ref s.heap.objs.size) s' :=
 ⟨_,_,κ,G.nZ k bx ho hg jn, .nZ k, .raw _,hK _ (iK G).1⟩
noncomputable def D9:d8->Option Nat
 | .list vs=>some vs.length
 | .dh b=>some b.length
 | _=>none
noncomputable def tZ(σ:aq)(v:ab):Option Nat:=xA none (λv=>(tf v).bind λa=>(σ a).bind D9) (λJ=>none) (λb=>some b.length) (λl=>some l.length) (λl=>some l.length) v
theorem rP(h:σ a=some (.list vs)):tZ σ (.ref a)=some vs.length:=by
 refine (?_:(σ a).bind D9=_);exact aa h rfl
theorem jz{f:Value}(hf:∀a,f≠ .ref a){K:ab->aq->Prop}(h:∀A κ s y,cG n A->bk X σ κ s->am (aj σ κ) s.heap v y->wpAny X.M A (call f [y]) (jy X σ κ s K) (λJ J=>False) s):az X n (.raw f) [v] [] K σ :=
 D8 hf λA κ s ys hr G hv=>by
  obtain ⟨y,ys,rfl,h1,hv⟩:=hv.cons_inv;cases hv.nil_inv;exact bc (h A κ s y hr G h1)
theorem zL{f:Value}(hf:∀a,f≠ .ref a){w:ab}{K:ab->aq->Prop}(h:∀A κ s y z,cG n A->bk X σ κ s->am (aj σ κ) s.heap v y->am (aj σ κ) s.heap w z->wpAny X.M A (call f [y,z]) (jy X σ κ s K) (λJ J=>False) s):az X n (.raw f) [v,w] [] K σ :=
 D8 hf λA κ s ys hr G hv=>by
  obtain ⟨y,ys,rfl,h1,hv⟩:=hv.cons_inv;obtain ⟨z,ys,rfl,h2,hv⟩:=hv.cons_inv;cases hv.nil_inv;exact bc (h A κ s y z hr G h1 h2)
theorem Y'{w:cO}{l:Addr}{items:Array Value}(hl:s.heap.IsTuple l items)(zu:items.size≤1000000)
  (h:∀t k,Q (.int items.size t) {s with toks:=k}):wpAny (model prog w) A (call (.builtin "len") [.ref l]) Q E s:=by
 have hT:=hl.typeIs
 obtain ⟨o,ho,hc,m,hd⟩:=id hl;refine Calls.call_function_entry kind_len plain_len entry_len (args_len1 _) (au (m:=oneArg "len" _) (aU ?_));refine au (m:=callSpecial? (.ref l) (bd "__len__")) (wpAny_callSpecial?_slot (name:=bd "__len__") hT Za (zi Za hT PySem.F.entry_tuple_len (PySem.F.args_tuple_len_1 _)
  (S:=λJ R s'=>s'=s/\R (.ok (.ret (.int items.size s.toks))) {s with toks:=s.toks+1}) (.of_wp λprog w A R s' hs=> ?_) ⟨rfl, ?_⟩))
 ·obtain ⟨rfl,hR⟩:=hs;refine au (dU (a:=(.ref l,[])) rfl ?_);refine au (au (lp ho hd (aU ?_)));exact au (zB (aU ⟨_,rfl,hR⟩))
 refine (?_:wpAny _ _ _ _ _ {s with toks:=s.toks+1});refine bD (λq=>kt (dU (rfl:asIndex (.int (items.size:Int) s.toks)=pure (items.size:Int)) q)) (au (wD ?_));refine oq (jU.mpr (eh _)) (oq (Kt.mpr (m9 (dT.mpr zu) (by decide))) ?_);exact au (zB (aU ⟨_,rfl,h _ _⟩))
theorem size_eq{U h}(r:aN U h vs ys):ys.toArray.size=vs.length:=r.length.symm
theorem cu{K:ab->aq->Prop}(hv:tZ σ v=some k)(hk:k≤1000000)(hK:K (.int k) σ):az X n (.raw (.builtin "len")) [v] [] K σ:=by
 refine jz (λJ=>gN) λA κ s y hr G h=> ?_
 have lst:∀{a} {vs:List ab} {ys:List Value},s.heap.IsList a ys.toArray->aN (aj σ κ) s.heap vs ys->vs.length=k->wpAny X.M A (call (.builtin "len") [.ref a]) (jy X σ κ s K) (λJ J=>False) s:=λhl aL e=>by
  have e:=(size_eq aL).trans e
  exact Calls.call_len_list hl (m9 (dT.mpr (e▸hk)) (by decide)) (.same G rfl rfl rfl (e▸ .int _ _) hK)
 rcases v with v | _ | _ | _ | _ | _ | _ | _<;>first | exact nn hv | skip
 ·refine aB (cQ.mp hv) λa h1 hv=>aB (cQ.mp hv) λo ho hv=> ?_;cases BE h1;cases h.bQ
  have own:=G.own a _ ho
  rcases o with ⟨⟩<;>first | exact nn hv | skip
  ·exact aB (own) λys hl aL=>lst hl.list aL (aM hv)
  ·cases aM hv;exact X7 own hk (.same G rfl rfl rfl (.int _ _) hK)
 ·obtain ⟨t,rfl⟩:=h.inv;cases aM hv;exact PySem.W.len_bytes (by refine aa fE ?_;exact ag hk (nb rfl)) (.same G rfl rfl rfl (.int _ _) hK)
 ·refine eK (h.inv) λa ys bL J hl aL=> ?_;subst bL;exact lst hl aL (aM hv)
 ·refine eK (h.inv) λa ys bL J hl aL=> ?_;subst bL
  have e:=(size_eq aL).trans (aM hv)
  exact Y' hl (e▸hk) λt k=> .same G rfl rfl rfl (e▸ .int _ _) hK
theorem KY{b:Bool}{K:ab->aq->Prop}(hK:K (.int (if b then 1 else 0)) σ):az X n (.raw (.type "int")) [.bool b] [] K σ:=by
 refine jz (λJ=>gN) λA κ s y hr G h=> ?_;cases h.bQ;exact call_int_bool (.same G rfl rfl rfl (.int _ _) hK)
theorem KZ(G:bk X σ κ s)(hv:eV σ v=some vs)(h:am (aj σ κ) s.heap v y):∃a o ys m,y= .ref a/\s.heap.get? a=some o/\(o.cls= .type "list" ∨o.cls= .type "tuple")/\o.data= .seq (Ea ys) m/\aN (aj σ κ) s.heap vs ys:=by
 rcases zl G hv h with ⟨r,o,e,c,m,d⟩ | ⟨r,o,e,c,m,d⟩
 ·exact ⟨_,o,_,m,rfl,e, .inl c,d,r⟩
 ·exact ⟨_,o,_,m,rfl,e, .inr c,d,r⟩
theorem K0{K:ab->aq->Prop}(hv:eV σ v=some vs)(aR:vs.length≤1000000)(hK:KX vs σ K):az X n (.raw (.type "list")) [v] [] K σ:=by
 refine jz (λJ=>gN) λA κ s y hr G h=>OP (KZ G hv h) λa o zs m wj e c d aL=> ?_;subst wj
 have hz:zs.toArray.size≤sizeLine:=by refine aa fE (ao aL.length ?_);exact fc aR
 rcases c with c | c
 ·exact call_list_seq a (T:= "list") (.inl rfl) e c d (λh' c' hk hD=> .fresh G rfl hk rfl rfl ⟨_,hD,rfl,rfl,c',rfl⟩ aL hK) hz
 ·exact call_list_seq a (T:= "tuple") (.inr rfl) e c d (λh' c' hk hD=> .fresh G rfl hk rfl rfl ⟨_,hD,rfl,rfl,c',rfl⟩ aL hK) hz
theorem Zb{K:ab->aq->Prop}(hv:eV σ v=some vs)(aR:vs.length≤1000000)(hK:K (.tuple vs) σ):az X n (.raw (.type "tuple")) [v] [] K σ:=by
 refine jz (λJ=>gN) λA κ s y hr G h=> ?_
 have lst:∀{a} {zs:List Value},s.heap.IsList a zs.toArray->aN (aj σ κ) s.heap vs zs->wpAny X.M A (call (.type "tuple") [.ref a]) (jy X σ κ s K) (λJ J=>False) s:=λ{a zs} hl aL =>
  call_tuple_list hl (λh' hk=>by
   have k:∀b ob,s.heap.get? b=some ob->(h'.push {cls:= .type "tuple",data:= .seq zs.toArray}).get? b=some ob:=λb ob q=>fq _ (hk b ob q)
   exact .ext G k rfl rfl (.tuple (iK (G.ext (s':={s with heap:=h'}) hk rfl rfl)) ⟨_,cV _ rfl,rfl,0,rfl⟩ (aL.mono (gI k))) hK) (ao ((size_eq aL).symm) (fc aR))
 refine eV.of (C:=λv=>am (aj σ κ) s.heap v y->wpAny X.M A (call (.type "tuple") [y]) (jy X σ κ s K) (λJ J=>False) s) hv (λr=> ?_) (λr=> ?_) (λa q r=> ?_) h
 ·obtain ⟨a,ys,rfl,_,l,h⟩:=r.inv;exact lst l h
 ·refine eK (r.inv) λa ys bL J l h=> ?_;subst bL;exact call_tuple_same l (.same G rfl rfl rfl r hK)
 ·cases r.bQ;exact aB (G.own _ _ q) λitems hl aL=>lst hl.list aL
end
section
variable{X:Cx}{n:Nat}
theorem wL{h:Heap}:∀{ys:List Value},aN U h (ns.map .int) ys->wM ys ns:=by
 induction ns with
 | nil=>exact λr=>by cases r.nil_inv;exact .nil
 | cons n ns ih =>
  intro ys r;obtain ⟨y,ys,rfl,h1,h2⟩:=r.cons_inv;obtain ⟨t,rfl⟩:=h1.inv;exact .cons _ _ (ih h2)
theorem Zc{h:Heap}(r:wM ys ns):aN U h (ns.map .int) ys:=by
 induction r with
 | nil=>exact .nil
 | cons n t _ ih=>exact .cons (.int _ _) ih
theorem zM{i:Int}{K:ab->aq->Prop}(h0:0≤i)(h1:i≤1000000)(hK:K (.bytes (cf i.toNat 0)) σ):az X n (.raw (.type "bytes")) [.int i] [] K σ:=by
 refine jz (λJ=>gN) λA κ s y hr G h=> ?_;obtain ⟨_,rfl⟩:=h.inv;exact DF (.int i _ h0 h1) λt k=> .same G rfl rfl rfl (.bytes _ _) hK
theorem rQ{K:ab->aq->Prop}(hK:K (.bytes b) σ):az X n (.raw (.type "bytes")) [.bytes b] [] K σ:=by
 refine jz (λJ=>gN) λA κ s y hr G h=> ?_;obtain ⟨t,rfl⟩:=h.mI;exact DF (.bytes b t) λt k=> .same G rfl rfl rfl (.bytes _ _) hK
theorem Zd{K:ab->aq->Prop}(ha:σ a=some (.dh b))(hb:b.length≤1000000)(hK:K (.bytes b) σ):az X n (.raw (.type "bytes")) [.ref a] [] K σ:=by
 refine jz (λJ=>gN) λA κ s y hr G h=> ?_;cases h.bQ;exact DF (.dh a b (G.own a _ ha) hb) λt k=> .same G rfl rfl rfl (.bytes _ _) hK
theorem wN{K:ab->aq->Prop}(hb:b.length≤1000000)(hK:K (.bytes b) σ):az X n (.raw (.type "bytes")) [.list (dZ b)] [] K σ:=by
 refine jz (λJ=>gN) λA κ s y hr G h=> ?_;obtain ⟨a,cs,rfl,u,hl,aL⟩:=h.inv
 have e:dZ b=(b.map λx=>(x.toNat:Int)).map .int:=by simp [dZ]
 have hi:=wL (ao e aL)
 have aR:_=_:=aL.length
 refine call_bytes_ints hl hi (λn hn=> ?_) (by refine ao aR ?_;simp [dZ];exact fc hb) hr.handled λh' t k hk=> .ext G hk rfl rfl ?_ hK
 ·obtain ⟨x,_,rfl⟩:=bF.mp hn
  have:=x.toNat_lt
  exact ⟨eh _,il.mpr this⟩
 ·have:byteArr (b.map λx=>(x.toNat:Int))=b.toArray:=by
   simp only [byteArr,dj]
   congr 1
   exact (fV λx J=>by simp).trans (K3 b)
  exact aa this (.bytes _ _)
theorem Ze{i:Int}{K:ab->aq->Prop}(h0:0≤i)(h1:i≤1000000)(hK:∀a,σ a=none->K (.ref a) (σ.set a (.dh (cf i.toNat 0)))):az X n (.raw (.type "bytearray")) [.int i] [] K σ:=by
 refine D8 (λJ=>gN) λA κ s ys hr G h=> ?_;obtain ⟨y,ys,rfl,hy,h⟩:=h.cons_inv;cases h.nil_inv;obtain ⟨_,rfl⟩:=hy.inv;exact Km (.int i _ h0 h1) λh' tk hS hk=> .own (o:= .dh (cf i.toNat 0)) G hk ⟨_,hS⟩ rfl rfl hS hK
theorem oy(ha:σ a=some (.list vs)):vm X σ (.ref a) "append" (.builtin "list.append"):=λκ s y G hv A pl Q E q=>by
 cases hv.bQ;obtain ⟨ys,⟨o,e,c,d,_⟩,_⟩:=G.own a _ ha;exact bc (Calls.getMethod_list_append e c d (q s rfl rfl rfl))
theorem t0{K:ab->aq->Prop}(ha:σ a=some (.list vs))(aR:vs.length≤1000000)(hK:K .none (σ.set a (.list (vs++ [v])))):az X n (.raw (.builtin "list.append")) [.ref a,v] [] K σ:=by
 refine zL (λJ=>gN) λA κ s y z hr G h h2=> ?_;cases h.bQ;obtain ⟨ys,hl,aL⟩:=G.own a _ ha;refine HQ hl (λh' eE hs=> ?_) (ao ((size_eq aL).symm) (fc aR));obtain ⟨G',ev⟩:=G.change (s':={s with heap:=h'}) (d:=a) (o':= .list (vs++ [v])) ha (.inl rfl) (λb ob q g=>(hs.2 b q).trans g) (aB eE.list λob g J=>⟨ob,g⟩) (λS=>⟨ys++ [z],ao (K4 ys z) eE,(aL.append (.one h2)).mono S⟩)
  (λJ J J J J=>d8.noConfusion) rfl rfl
 exact ⟨.none,_,κ,G',ev, .raw _,hK⟩
theorem K5(hi:wM ys ns)(bt:0<ns.length):∃xs,ys.toArray=intItems xs/\ns=xs.toList.map (λz=>z.1)/\0<xs.size:=by
 obtain ⟨xs,e⟩:=hi.allInts.items
 have kC:ns=xs.toList.map (λz=>z.1):=ao hi.numsOf (ao (nums_intItems ..) (ao e rfl))
 exact ⟨xs,e,kC,by rwa [kC,aC,wO] at bt⟩
theorem K6{xs:Array (Int×Tok)}{j:Nat}(h:j<xs.size):numAt xs j∈xs.toList.map (λz=>z.1):=by
 exact aa (numAt_eq ..) (getD_mem (by refine aa (aC ..) (aa wO ?_);exact h))
theorem K7{xs:Array (Int×Tok)}{a:Int}(ha:a∈xs.toList.map (λz=>z.1)):∃j,j≤xs.size - 1/\a=numAt xs j:=by
 obtain ⟨j,hj,rfl⟩:=mem_getD ha;rw [aC,wO] at hj
 exact ⟨j,Zf hj,aa (numAt_eq ..) rfl⟩
theorem Zg{K:ab->aq->Prop}(hv:v= .list (ns.map .int))(bt:0<ns.length)(hK:∀M,M∈ns->(∀a∈ns,M≤a)->K (.int M) σ):az X n (.raw (.builtin "min")) [v] [] K σ:=by
 refine jz (λJ=>gN) λA κ s y hr G h=> ?_;subst hv;obtain ⟨a,cs,rfl,u,hl,aL⟩:=h.inv;obtain ⟨xs,e,kC,bJ⟩:=K5 (wL aL) bt;rw [e] at hl
 refine min_intList hr.handled hl bJ λv h' tk hv hk=> ?_;obtain ⟨t,rfl⟩:=intItems_at hv;obtain ⟨h1,h2⟩:=argBest_lt (numAt xs) (xs.size - 1);refine .ext G hk rfl rfl (.int _ _) (hK _ (kC▸K6 (eB h1 (Zh bJ))) λa ha=> ?_);obtain ⟨j,hj,rfl⟩:=K7 (kC▸ha);exact h2 j hj
theorem Zi{K:ab->aq->Prop}(hv:v= .list (ns.map .int))(bt:0<ns.length)(hK:∀M,M∈ns->(∀a∈ns,a≤M)->K (.int M) σ):az X n (.raw (.builtin "max")) [v] [] K σ:=by
 refine jz (λJ=>gN) λA κ s y hr G h=> ?_;subst hv;obtain ⟨a,cs,rfl,u,hl,aL⟩:=h.inv;obtain ⟨xs,e,kC,bJ⟩:=K5 (wL aL) bt;rw [e] at hl
 refine max_intList hr.handled hl bJ λv h' tk hv hk=> ?_;obtain ⟨t,rfl⟩:=intItems_at hv;obtain ⟨h1,h2⟩:=argBest_gt (numAt xs) (xs.size - 1);refine .ext G hk rfl rfl (.int _ _) (hK _ (kC▸K6 (eB h1 (Zh bJ))) λa ha=> ?_);obtain ⟨j,hj,rfl⟩:=K7 (kC▸ha);exact h2 j hj
end
section
variable{X:Cx}{n:Nat}
theorem K8{a b:Int}{K:ab->aq->Prop}(hK:K (.int (min a b)) σ):az X n (.raw (.builtin "min")) [.int a, .int b] [] K σ:=by
 refine zL (λJ=>gN) λA κ s y z hr G h h2=> ?_;obtain ⟨_,rfl⟩:=h.inv;obtain ⟨_,rfl⟩:=h2.inv;refine min_two_ints hr.handled λh' tk hk=> ?_
 split
 ·rename_i q
  exact .ext G hk rfl rfl (.int _ _) (ao (Int.min_eq_right (n8 q)) hK)
 ·rename_i q
  exact .ext G hk rfl rfl (.int _ _) (ao (Int.min_eq_left (jU.mp q)) hK)
theorem Zj{a b:Int}{K:ab->aq->Prop}(hK:K (.int (max a b)) σ):az X n (.raw (.builtin "max")) [.int a, .int b] [] K σ:=by
 refine zL (λJ=>gN) λA κ s y z hr G h h2=> ?_;obtain ⟨_,rfl⟩:=h.inv;obtain ⟨_,rfl⟩:=h2.inv;refine max_two_ints hr.handled λh' tk hk=> ?_
 split
 ·rename_i q
  exact .ext G hk rfl rfl (.int _ _) (ao (Kq (n8 q)) hK)
 ·rename_i q
  exact .ext G hk rfl rfl (.int _ _) (ao (Int.max_eq_left (jU.mp q)) hK)
theorem K9(ns:List Int):∀i,i≤ns.length->preSum (λj=>ns.getD j 0) i=(ns.take i).sum:=ahY ns
theorem Zk(h:∀x∈ns,0≤x/\x≤1000):0≤ns.sum/\ns.sum≤1000*ns.length:=by
 induction ns with
 | nil=>exact ⟨Zl _,Zl _⟩
 | cons x ns ih =>
  have h1:=h x (.head _)
  have h2:=ih λy hy=>h y (.tail _ hy)
  refine aH rR nS (aa (Int.natCast_succ ..) (aa (Int.mul_add ..) (aa (Ts ..) ?_)));rewrite [vI x];exact ⟨Int.add_nonneg h2.1 h1.1,Int.add_le_add h2.2 h1.2⟩
theorem Zm{K:ab->aq->Prop}(hn:∀x∈ns,0≤x/\x≤1000)(aR:ns.length≤1000000)(hK:K (.int ns.sum) σ):az X n (.raw (.builtin "sum")) [.list (ns.map .int)] [] K σ:=by
 refine jz (λJ=>gN) λA κ s y hr G h=>eK (h.inv) λa cs bL u hl aL=> ?_;subst bL
 have hi:=wL aL
 obtain ⟨xs,e⟩:=hi.allInts.items
 have kC:ns=xs.toList.map (λz=>z.1):=ao hi.numsOf (ao (nums_intItems ..) (ao e rfl))
 have bJ:ns.length=xs.size:=aa kC (aa (aC ..) (aa wO rfl))
 have p9:numAt xs=λj=>ns.getD j 0:=by funext j;exact aa (numAt_eq ..) (aa kC rfl)
 rw [e] at hl
 refine sum_intList hr.handled hl (λj hj=> ?_) λh' tk t' hk=> ?_
 ·refine aa p9 ?_
  have h1:0≤ns.getD j 0/\ns.getD j 0≤1000:=by
   have ku:j<ns.length:=bJ▸hj
   rw [t6,bE ku];exact hn _ (mu _)
  have h2:=Zk (ns:=ns.take (j+1)) λx hx=>hn x (pg hx)
  refine aa (K9 ns (j+1) (bJ▸hj)) ?_
  have h3:(ns.take (j+1)).length≤1000000:=ag (by refine aa iX ?_;exact jW ..) aR
  unfold InLong;exact ⟨⟨ic (by decide) h1.1,m9 h1.2 (by decide)⟩,ic (by decide) h2.1,m9 (ic h2.2 (Int.mul_le_mul_of_nonneg_left (dT.mpr h3) (by decide))) (by decide)⟩
 ·refine aa p9 (aa (K9 ns xs.size (bS bJ.symm)) (ao bJ (aa kD ?_)));exact .ext G hk rfl rfl (.int _ _) hK
theorem La{bs:List Bool}{K:ab->aq->Prop}(hK:K (.bool (bs.all id)) σ):az X n (.raw (.builtin "all")) [.list (bs.map .bool)] [] K σ:=by
 refine jz (λJ=>gN) λA κ s y hr G h=>eK (h.inv) λl cs bL u hl aL=> ?_;subst bL
 have aR:=aL.length
 rw [aC] at aR
 have bx:l≠s.heap.objs.size:=by obtain ⟨o,e,_⟩:=hl;exact dz (cR e)
 refine call_all_walk (Bs hl ⟨_,_,_,_,_,_,λi=>bs.getD i false,rfl,Ip (A:=A.in1) hr.handled _ l bx cs.toArray,⟨⟨_,cV _ rfl,rfl,rfl⟩,hl.push _⟩, ?_,λh' tk hk=> ?_⟩)
 ·intro i v s' Q E hP hQ;simp only [pG] at hP
  have hi:i<bs.length:=aa aR ((dr.mp hP).1)
  refine aB (aL.get (i:=i) (v:= .bool bs[i]) (by rw [cW,bE hi];rfl)) λy e r=> ?_;rw [hP] at e;cases e
  cases r.bQ;refine GE ?_;dsimp only at hQ
  rw [t6,bE hi] at hQ
  exact hQ
 ·have e:(aK cs.toArray.size).all (λi=>bs.getD i false)=bs.all id:=by
   refine aa fE (ao aR ?_)
   have:bs=(aK bs.length).map λi=>bs.getD i false:=by
    apply wP
    intro i;rw [cW]
    by_cases q:i<bs.length
    ·rw [zd q];simp [bE q]
    ·rw [ir (fA q),ir (by simp;exact fA q)];rfl
   conv=>rhs;rw [this]
   exact aa GU rfl
  exact aa e (.ext G (λb o g=>hk b o (λq=>by rw [dL.mp q] at g;exact absurd (cR g) (iL _)) (fq _ g)) rfl rfl (.raw _) hK)
noncomputable def insI(x:Int):List Int->List Int
 | []=> [x]
 | y::ys=>if x≤y then x::y::ys else y::insI x ys
theorem Lb{x y:Int}{ys:List Int}:insI x (y::ys)=if x≤y then x::y::ys else y::insI x ys:=rfl
noncomputable def jA:List Int->List Int
 | []=> []
 | x::xs=>insI x (jA xs)
theorem insI_perm(x:Int)(ys):(insI x ys).Perm (x::ys):=by
 induction ys with
 | nil=>exact .refl _
 | cons y ys ih =>
  refine aa Lb ?_
  by_cases q:x≤y
  ·exact aa (if_pos q) (.refl _)
  ·exact aa (if_neg q) ((ih.cons y).trans (.swap x y ys))
theorem rS(xs):(jA xs).Perm xs:=by
 induction xs with
 | nil=>exact .refl _
 | cons x xs ih=>exact (insI_perm x _).trans (ih.cons x)
theorem Zn(x:Int)(ys):ys.Pairwise (λz b9=>z ≤ b9)->(insI x ys).Pairwise (λz b9=>z ≤ b9):=by
 induction ys with
 | nil=>exact λJ=>List.pairwise_singleton ..
 | cons y ys ih =>
  refine λh=>aa Lb (dP (p4.mp h) λh1 h2=> ?_)
  by_cases q:x≤y
  ·exact aa (if_pos q) (p4.mpr ⟨λz hz=>(bq.mp hz).elim (λe=>aa e q) λhz=>ic q (h1 z hz),h⟩)
  ·exact aa (if_neg q) (p4.mpr ⟨λz hz=>(bq.mp ((insI_perm x ys).mem_iff.mp hz)).elim (λe=>aa e (n8 (Kt.mp q))) (h1 z),ih h2⟩)
theorem zN(xs):(jA xs).Pairwise (λz b9=>z ≤ b9):=by
 induction xs with
 | nil=>exact .nil
 | cons x xs ih=>exact Zn x _ ih
theorem Lc{xs:List Int}:∀{ys:List Int},xs.Perm ys->xs.Pairwise (λz b9=>z ≤ b9)->ys.Pairwise (λz b9=>z ≤ b9)->xs=ys:=by
 induction xs with
 | nil=>exact λ{ys} p _ _=>p.nil_eq
 | cons x xs ih =>
  intro ys p hx hy;rcases ys with _ | ⟨y,ys⟩
  ·exact p.eq_nil
  refine dP (p4.mp hx) λx1 x2=>dP (p4.mp hy) λy1 y2=> ?_
  have e:x=y:=Jy ((bq.mp (p.mem_iff.mpr (.head _))).elim (λq=>Zo q.symm) (x1 y)) ((bq.mp (p.mem_iff.mp (.head _))).elim (λq=>Zo q.symm) (y1 x))
  subst e;exact congrArg _ (ih p.cons_inv x2 y2)
theorem Ld{xs ys:List Int}(p:ys.Perm xs)(h:ys.Pairwise (λz b9=>z ≤ b9)):ys=jA xs:=Lc (p.trans (rS xs).symm) h (zN xs)
theorem Zp{w:cO}{x:Value}{vs:List Value}
  (hc:∀R:List Value->al->Prop,(∀h' tk ys,wM ys ns->(∀b o,s.heap.get? b=some o->h'.get? b=some o)->R ys {s with heap:=h',toks:=tk})->wpAny (model prog w) A.in1 (collect x) R E s)
  (mv:ns.length<64) (h:∀h' tk a ys,s.heap.get? a=none->h'.IsList a (Ea ys)->wM ys (jA ns)->(∀b o,s.heap.get? b=some o->h'.get? b=some o)->Q (.ref a) {s with heap:=h',toks:=tk}) :
  wpAny (model prog w) A (call (.builtin "sorted") [x]) Q E s:=by
 refine Calls.call_function_entry kind_sorted plain_sorted entry_sorted (args_sorted1 _) (au (m:=checkCount "sorted" 1 1 _) (aU ?_));refine au (hc _ λh' tk ys hI hk=> ?_)
 have hl:ys.length=ns.length:=Zq hI
 refine au (wpAny_newList ?_ (fc (ag (bS hl) (ag (bO mv) (nb rfl)))))
 have Eb:(h'.push (seqObj "list" ys.toArray 0)).get? h'.objs.size=some (seqObj "list" ys.toArray 0):=cV _ rfl
 refine au (kt (n0 slot_list_sort ⟨_,Eb,rfl⟩ entry_list_sort (list_sort_tree Eb hI (hl▸mv) λout ahZ a1 a2 a3=>⟨_,rfl, ?_⟩) (args_list_sort _)));refine aU ⟨_,rfl, ?_⟩;obtain ⟨e,he⟩:=sortedHeap_at (vs:=ys) (out:=out) Eb
 have hn:s.heap.get? h'.objs.size=none:=by
  cases q:s.heap.get? h'.objs.size with
  | none=>rfl
  | some o=>exact absurd (cR (hk _ _ q)) (iL _)
 refine h _ tk h'.objs.size out.toList hn ⟨_,he,rfl,e,by simp [seqObj]⟩ (ao (Ld a2 a3) a1) λb o q=> ?_
 have bx:=cR (hk b o q)
 exact aa (sortedHeap_old (dz bx) (by rw [size_push'];exact pK bx)) (fq _ (hk b o q))
end
section
variable{prog:dN}{w:cO}{A:cA}{E:Value->al->Prop}{s:al}
theorem Le{l:Addr}{o:Obj}{T:String}{vs:List Value}{R:List Value->al->Prop}(hT:T= "list" ∨T= "tuple")(ho:s.heap.get? l=some o)(hc:o.cls= .type T)(hd:o.data= .seq vs.toArray m)
  (h:∀h',(∀b ob,s.heap.get? b=some ob->h'.get? b=some ob)->R vs {s with heap:=h'}) (bJ:vs.length≤1000000):wpAny (model prog w) A (collect (.ref l)) R E s:=by
 unfold collect;refine au (wpAny_runValue (wE entry_proto_collect' ?_));refine (?_:wpAny _ _ (do again (.builtin "list.__iadd__" ⟨[<-newList [], .ref l],[]⟩)) _ _ s);refine au (wpAny_newList (aU ⟨Kn _ (by decide +kernel),wE entry_list_iadd' ?_⟩) (by simp));refine (?_:wpAny _ _ (Zr (.ref s.heap.objs.size) (.ref l) (.ref s.heap.objs.size)) _ _ {s with heap:=s.heap.push (seqObj "list" #[] 0)});unfold Zr
 have rq:(s.heap.push (seqObj "list" #[] 0)).get? l=some o:=fq _ ho
 refine au (nc (T:=T) ⟨o,rq,hc⟩ ?_)
 have ht:(Yj (.ref s.heap.objs.size) (.ref l) || Value.type T==Value.type "list" || Value.type T==Value.type "tuple")=true:=by rcases hT with rfl | rfl<;>simp
 refine aa (if_pos ht) (au (listItems_at rq hd ?_));refine au (listItems_at (xs:= #[]) (n:=0) (cV _ rfl) rfl ?_);refine aa (if_neg (by simp)) (au (listUpdate_at (xs:= #[]) (n:=0) (cV _ rfl) rfl ?_ (da _) (by have:=fc bJ;simp;exact mi this)));refine aU ?_
 show wpAny (model prog w) A (do
   let o<-load s.heap.objs.size
   match o.data with
   | .seq xs _=>pure xs.toList
   | _=>unsupported "internal:collect") R E {s with heap:=(s.heap.push (seqObj "list" #[] 0)).update s.heap.objs.size (yF (λz=>z ++vs.toArray))}
 refine au (qN (get?_update_seq (cV _ rfl) _) ?_);refine (?_:wpAny _ _ (pure ((#[]:Array Value)++vs.toArray).toList) R E _);exact aa (show ((#[]:Array Value)++vs.toArray).toList=vs by simp) (aU (h _ λb ob e=>(Heap.get?_update_other _ _ (fH (cR e))).trans (fq _ e)))
end
section
variable{X:Cx}{n:Nat}
theorem Lg{x:Value}{K:ab->aq->Prop}(G:bk X σ κ s)
  (hc:∀R:List Value->al->Prop,(∀h' tk ys,wM ys ns->(∀b o,s.heap.get? b=some o->h'.get? b=some o)->R ys {s with heap:=h',toks:=tk})->wpAny X.M A.in1 (collect x) R (λJ J=>False) s)
  (mv:ns.length<64) (hK:K (.list ((jA ns).map .int)) σ):wpAny X.M A (call (.builtin "sorted") [x]) (jy X σ κ s K) (λJ J=>False) s:=by
 refine Zp (vs:= []) hc mv λh' tk a ys ha hl hI hk=> ?_
 have u:aj σ κ a:=nY λh=>by obtain ⟨o,e⟩:=G.lt a h;rw [ha] at e;cases e
 exact .ext G hk rfl rfl (.list u hl (Zc hI)) hK
theorem Zs{K:ab->aq->Prop}(hv:eV σ v=some (ns.map .int))(mv:ns.length<64)(hK:K (.list ((jA ns).map .int)) σ):az X n (.raw (.builtin "sorted")) [v] [] K σ:=by
 refine jz (λJ=>gN) λA κ s y hr G h=> ?_;obtain ⟨a,o,zs,m,rfl,e,c,d,aL⟩:=KZ G hv h
 have hI:=wL aL
 have hl:=Zq hI
 refine Lg G (λR q=> ?_) mv hK;rcases c with c | c
 ·exact Le (.inl rfl) e c d (λh' hk=>q h' s.toks zs hI hk) (ag (bS hl) (ag (bO mv) (by decide)))
 ·exact Le (.inr rfl) e c d (λh' hk=>q h' s.toks zs hI hk) (ag (bS hl) (ag (bO mv) (by decide)))
theorem Zt{ks:List Int}{K:ab->aq->Prop}(mv:ks.length<64)(hK:K (.list ((jA ks).map .int)) σ):az X n (.raw (.builtin "sorted")) [.dict ks vs] [] K σ:=by
 refine jz (λJ=>gN) λA κ s y hr G h=> ?_;obtain ⟨d,es,m,rfl,u,lo,hd,hn,Zu⟩:=h.inv;obtain ⟨zs,h1,h2,h3,h4⟩:=JM X.prog X.w Zu
 have hz:(ks.zip zs).map (λz=>z.1)=ks:=aa (JP (bS h4)) rfl
 have p9:s.heap.DictAt (intKind X.prog X.w) d (ks.zip zs) m:=⟨_,es.toArray,hd,⟨rfl,rfl,rfl⟩,rfl,h2,by simpa using h1,by refine aa hz ?_;exact hn⟩
 have aR:(ks.zip zs).length=ks.length:=by refine aa rT ?_;exact gO (bS h4)
 refine Lg G (λR q=> ?_) mv hK;refine kdu_collect (kdl_dict (knd:=intKind X.prog X.w) (kvs:=ks.zip zs) (ep:=m) lo) hr.handled p9 (by refine aa aR ?_;exact fc (ag (bO mv) (by decide))) λh' tk acc hk i0=>q h' tk acc.toList ?_ hk;refine kdy_ints (aa wO (aa i0.1 (aa aR rfl))) λj v hv=> ?_;obtain ⟨k,x,hx,d3⟩:=i0.2 j v (by rw [<-Array.getElem?_toList];exact hv)
 have Zv:ks[j]? =some k:=by rw [<-hz,cW,hx];rfl
 refine ⟨k,Zv, ?_⟩;cases v<;>simp [PySem.intKind,zp] at d3
 exact ⟨_,aa d3 rfl⟩
end
section
open scoped Classical
class inductive i4 (aD aQ:aq):Bool->List ab->List ab->Prop
 | same (v:ab):i4 aD aQ false [v] [v]
 | list {a:Addr} {vs fk:List ab}:aD a=some (.list vs)->aQ a=none->i4 aD aQ true vs fk->i4 aD aQ false [.raw (.ref a)] [.list fk]
 | inst {a C:Addr} {fs:List (Str×ab)} {fk:List ab}:aD a=some (.inst C fs)->aQ a=none->i4 aD aQ true (fs.map (λz=>z.2)) fk->i4 aD aQ false [.raw (.ref a)] [.inst C ((fs.map (λz=>z.1)).zip fk)]
 | lists {vs fk:List ab}:i4 aD aQ true vs fk->i4 aD aQ false [.list vs] [.list fk]
 | tuples {vs fk:List ab}:i4 aD aQ true vs fk->i4 aD aQ false [.tuple vs] [.tuple fk]
 | nil:i4 aD aQ true [] []
 | cons {v v':ab} {vs fk:List ab}:i4 aD aQ false [v] [v']->i4 aD aQ true vs fk->i4 aD aQ true (v::vs) (v'::fk)
abbrev wQ(aD aQ:aq)(v v':ab):Prop:=i4 aD aQ false [v] [v']
abbrev qc(aD aQ:aq)(vs fk:List ab):Prop:=i4 aD aQ true vs fk
theorem qc.refl:∀vs,qc aD aQ vs vs:=by
 intro vs
 induction vs with
 | nil=>exact .nil
 | cons v vs ih=>exact .cons (.same v) ih
section
variable{X:Cx}
noncomputable def qd(aQ:aq)(t:Tag):Tag:=match t with
 | .dict a=>if aQ a=none then .none else .dict a
 | t=>t
noncomputable def cut(aQ:aq)(κ:bI):bI:=λd=>qd aQ (κ d)
theorem wR{b:Addr}(h:κ b= .none):cut aQ κ b= .none:=congrArg (qd aQ) h
theorem Lh{C:Tag->Prop}(h:aQ a=none->C .none)(h':aQ a≠none->C (.dict a)):C (qd aQ (.dict a)):=if q:aQ a=none then Eq.substr (p:=C) (if_pos q) (h q) else Eq.substr (p:=C) (if_neg q) (h' q)
theorem Zw{L:Addr}:∀{t:Tag},qd aQ t= .frame L↔t= .frame L
 | .none | .frame _ | .tab=>Iff.rfl
 | .dict _=>Lh (C:=λu=>u=Tag.frame L↔_) (λ_=>⟨bW,bW⟩) λ_=>Iff.rfl
theorem zO{b L:Addr}:cut aQ κ b= .frame L↔κ b= .frame L:=Zw
theorem Zx{b:Addr}(h:κ b= .tab):cut aQ κ b= .tab:=congrArg (qd aQ) h
theorem Zy{b:Addr}(h:κ b= .dict a)(ha:aQ a≠none):cut aQ κ b= .dict a:=(congrArg (qd aQ) h).trans (if_neg ha)
theorem Zz:∀{t:Tag},qd aQ t= .dict a->t= .dict a/\aQ a≠none
 | .none | .frame _ | .tab=>bW
 | .dict c=>Lh (C:=λu=>u=Tag.dict a->_) (λ_=>bW) λq e=>⟨e,ao (Tag.dict.inj e) q⟩
theorem ZA{b:Addr}(h:cut aQ κ b= .dict a):κ b= .dict a/\aQ a≠none:=Zz h
theorem bk.restrict(G:bk X aD κ s)(hs:∀a o,aQ a=some o->aD a=some o):bk X aQ (cut aQ κ) s/\be (λJ=>False) aD κ s.heap aQ (cut aQ κ) s.heap:=by
 have hn:∀b,aD b=none->aQ b=none:=λb e=>by
  cases q:aQ b with
  | none=>rfl
  | some o=>rw [hs b o q] at e;cases e
 have hu:∀b,aj aD κ b->aj aQ (cut aQ κ) b:=λb u=>⟨hn b u.1,wR u.2⟩
 have S:c7 (aj aD κ) s.heap (aj aQ (cut aQ κ)) s.heap:=λb o u e=>⟨hu b u,e⟩
 refine ⟨{
  keep:=G.keep
  os:=G.os
  gens:=G.gens
  tabs:=G.tabs.bb S λJ J J e=>e
  base:=λb ob e=>⟨hn b (G.base b ob e).1,wR (G.base b ob e).2⟩
  lt:=λb hb=>G.lt b λu=>hb (hu b u)
  fr:=λb L e=>zO.mpr (G.fr b L (zO.mp e))
  excl:=λb hb=>wR (G.excl b (by
   cases q:aQ b with
   | none=>exact absurd q hb
   | some o=>refine aa (hs b o q) ?_;simp))
  own:=λb ob e=>(G.own b ob (hs b ob e)).bb S (λJ g=>g) λd J z g=>⟨Zy z (by refine aa e ?_;simp),g⟩
  dict:=λd b e=>by
   obtain ⟨e,q⟩:=ZA e;obtain ⟨C,fs,z,g⟩:=G.dict d b e;refine ⟨C,fs, ?_,g⟩;cases y:aQ b with
   | none=>exact absurd y q
   | some o=>exact ao z (aa (hs b o y) rfl)
  tab:=λt ht=>Zx (G.tab t ht)},S,λb ob L e J g=>⟨zO.mpr e,g⟩,λb ob L e g=>⟨.inl (zO.mpr e),ob,g⟩⟩
theorem Ec{o:Option α}{a:α}(e:o=some a):o≠none:=λh=>nn (h.symm.trans e)
theorem VR.t7{h:Heap}(r:aN U h [v] ys):∃y,ys= [y]/\am U h v y :=
 eR r.cons_inv λy zs e r1 r2=>⟨y,e.trans (congrArg (λz=>y:: z) r2.nil_inv),r1⟩
theorem ZB(G:bk X aD κ s)(hs:∀a o,aQ a=some o->aD a=some o){b:Bool}{fk:List ab}(t:i4 aD aQ b vs fk):∀{ys},aN (aj aD κ) s.heap vs ys->aN (aj aQ (cut aQ κ)) s.heap fk ys:=by
 have E:=(G.restrict hs).2.bb
 induction t with
 | same v=>intro ys r;exact r.mono E
 | nil=>intro ys r;exact r.mono E
 | cons h1 h2 i1 i2 =>
  intro ys r;obtain ⟨y,ys,rfl,r1,r2⟩:=r.cons_inv;exact (i1 (.one r1)).t7.elim λz q=> .cons ((tO q.1).1▸q.2) (i2 r2)
 | lists h i =>
  intro ys r;obtain ⟨y,rfl,r1⟩:=r.t7;obtain ⟨a,items,rfl,u,hl,hv⟩:=r1.inv;exact .one (.list (hl.elim λo g=>(E _ o u g.1).1) hl (i hv))
 | tuples h i =>
  intro ys r;obtain ⟨y,rfl,r1⟩:=r.t7;obtain ⟨a,items,rfl,u,hl,hv⟩:=r1.inv;exact .one (.tuple (hl.elim λo g=>(E _ o u g.1).1) hl (i hv))
 | list ho hn h i =>
  intro ys r;obtain ⟨y,rfl,r1⟩:=r.t7;cases r1.bQ;exact aB (G.own _ _ ho) λitems hl hv=> .one (.list ⟨hn,wR (G.excl _ (Ec ho))⟩ hl.list (i hv))
 | inst ho hn h i =>
  intro ys r;obtain ⟨y,rfl,r1⟩:=r.t7;cases r1.bQ;refine qF (G.own _ _ ho) λd es n e1 e2 e3 q=> ?_
  have ZC:aQ d=none:=by
   rcases z:aQ d with _ | o
   ·rfl
   ·exact bW (e3.symm.trans (G.excl d (Ec (hs d o z))))
  have ZD:cut aQ κ d= .none:=(congrArg (qd aQ) e3).trans (if_pos hn)
  exact .one (.inst ⟨hn,wR (G.excl _ (Ec ho))⟩ ⟨ZC,ZD⟩ e1 e2 (Y9 q (i (Y8 q))))
inductive wS(K:ab->aq->Prop)(v:ab)(aD:aq):Prop
 | mk (v':ab) (aQ:aq):(∀a o,aQ a=some o->aD a=some o)->wQ aD aQ v v'->K v' aQ->wS K v aD
theorem az.out{n:Nat}{f:ab}{args:List ab}{dD:List (Str×ab)}{K:ab->aq->Prop}(h:az X n f args dD (wS K) σ):az X n f args dD K σ:= .mk λA κ s y ys dE hr G hf hv hk=>by
 obtain ⟨h1,h2⟩:=h.run A κ s y ys dE hr G hf hv hk;refine ⟨h1,weak h2 λz s' q=> ?_⟩;obtain ⟨v,σ',κ',G',ev,vr,v',aQ,hs,t,k⟩:=q;obtain ⟨G2,e2⟩:=G'.restrict hs;exact (ZB G' hs t (.one vr)).t7.elim λy q=>⟨v',aQ,_,G2,ev.trans e2,aa (tO q.1).1 q.2,k⟩
end
end
section
variable {C:Addr}{ov:ab}
section
variable{M:Model}{A:cA}{E:Value->al->Prop}{s:al}
theorem oz{t:Sem α}{r:α}{Q:α->al->Prop}{h:Heap}(L:Looks M h t r)(k:∀b o,h.get? b=some o->s.heap.get? b=some o)(q:Q r s):ai M A t Q E s:=bc (L A Q E s k q)
theorem ZE{h:Heap}{es:List DictEntry}(r:gv U h fs es)(e:dR x fs=none):getL x es=some none:=by
 unfold getL;rw [r.ind (P:=λfs es=>dR x fs=none->es.find? (λz=>z.key.isStr x)=none) (λJ=>rfl) (λ{y v hs t z fs es} _ _ ih e=>by
  rw [Qg] at e
  by_cases q:x=y
  ·rw [if_pos q] at e;exact nn e.symm
  ·rw [if_neg q] at e
   rw [List.find?_cons,show (zq y t).isStr x=false from Dn t q];exact ih e) e]
 simp [JU r]
end
section
variable{X:Cx}{n:Nat}
theorem ZG{P:ab->Prop}(hc:pp σ ov=some C)(hx:lP σ ov x=none)(h1:∀fs,dR x fs=none->P (.inst C fs))(h2:∀a fs,σ a=some (.inst C fs)->dR x fs=none->P (.ref a)):P ov:=by
 rcases ov with v | _ | _ | _ | _ | ⟨C',fs⟩ | _ | _<;>first | exact nn hc | skip
 ·rcases v with _ | _ | _ | _ | _ | _ | _ | _ | _ | _ | a<;>first | exact nn hc | skip
  change (match σ a with | some (.inst C _)=>some C | _=>none)=some C at hc
  change (match σ a with | some (.inst _ fs)=>dR x fs | _=>none)=none at hx
  rcases e:σ a with _ | o
  ·rw [e] at hc;exact nn hc
  rw [e] at hc hx
  rcases o with _ | _ | ⟨C',fs⟩<;>first | exact nn hc | skip
  obtain rfl:=aM hc;exact h2 a fs e hx
 ·obtain rfl:=aM hc;exact h1 fs hx
structure Lj(U:Addr->Prop)(h:Heap)(C:Addr)(x:Str)(y:Value)(p d:Addr)(es:List DictEntry)(m:Nat)(fs:List (Str×ab)):Prop where
 y:y= .ref p
 e:h.get? p=some (instObj C d)
 ed:h.get? d=some (dictOf es m)
 r:gv U h fs es
 n:dR x fs=none
theorem ZH(G:bk X σ κ s)(hc:pp σ ov=some C)(hx:lP σ ov x=none)(hv:am (aj σ κ) s.heap ov y):∃p d es m fs,Lj (aj σ κ) s.heap C x y p d es m fs:=by
 refine ZG (P:=λov=>am (aj σ κ) s.heap ov y->∃p d es m fs,Lj (aj σ κ) s.heap C x y p d es m fs) hc hx (λfs hn hv=> ?_) (λa fs z hn hv=> ?_) hv
 ·refine Gb hv.inv λa d es n a0 J J e ed r=> ?_;subst a0;exact ⟨a,d,es,n,fs,rfl,e,ed,r,hn⟩
 ·exact qF (G.own a _ z) λd es m e ed J r=>⟨a,d,es,m,fs,hv.bQ,e,ed,r,hn⟩
theorem wT(ok:eY X){f:Addr}(hm:po C x=some f)(hc:pp σ ov=some C)(hx:lP σ ov x=none):vm X σ ov x (.ref f):=λκ s y G hv A pl Q E q=>by
 refine o4 (ok.meths C x f hm) λhp hf ht=> ?_;obtain ⟨p,d,es,m,fs,M⟩:=ZH G hc hx hv;obtain rfl:=M.y;refine bc (method_fn (ok.K.keeps G.keep) (C:=C) (od:=some (dictOf es m)) ⟨M.e,rfl,rfl,M.ed⟩ (JV (name:=x) hp).1 (JV (name:=x) hp).2 hf (beq_iff_eq.mp ht) ?_ (q s rfl rfl rfl));refine (?_:(lookIn x (dictOf es m)).map (λz=>z.isSome)=some false);refine aa (lookIn_dict ..) (aa (ZE M.r M.n) ?_);rfl
theorem bk.ZI{σ':aq}{κ':bI}{N:Addr}{H:Heap}(G:bk X σ κ s)(hN:s.heap.objs.size=N)(Ed:κ' N= .dict (N+1))(ne:∀b,b≠N->κ' b=κ b)(sN:σ' (N+1)=some (.inst C []))(wU:∀b,b≠N+1->σ' b=σ b)(k:∀b ob,s.heap.get? b=some ob->H.get? b=some ob)(e1:H.get? N=some emptyDict)(e2:H.get? (N+1)=some (instObj C N)):bk X σ' κ' {s with heap:=H}/\
  be (λJ=>False) σ κ s.heap σ' κ' H:=by
 have lt:∀b ob,s.heap.get? b=some ob->b<N:=λb ob e=>ao hN (cR e)
 have zP:∀b,N≤b->σ b=none/\κ b= .none:=λb hb=>nY λq=>by
  exact iE (G.lt b q) λo e=>absurd (lt _ _ e) (dA.mpr hb)
 have hu:∀b ob,aj σ κ b->s.heap.get? b=some ob->aj σ' κ' b:=λb ob u e=>by
  have l:=lt b ob e
  exact ⟨aa (wU b (dz (pK l))) u.1,aa (ne b (dz l)) u.2⟩
 have S:c7 (aj σ κ) s.heap (aj σ' κ') H:=λb ob u e=>⟨hu b ob u e,k b ob e⟩
 refine ⟨{
  keep:=λb o e=>k b o (G.keep b o e)
  os:=G.os
  gens:=G.gens
  tabs:=G.tabs.bb S λt J o e=>k _ o e
  base:=λa o e=>hu a o (G.base a o e) (G.keep a o e)
  lt:=λa hn=>by
   by_cases q1:a=N
   ·exact aa q1 (⟨_,e1⟩)
   by_cases q2:a=N+1
   ·exact aa q2 (⟨_,e2⟩)
   exact iE (G.lt a λu=>hn ⟨aa (wU a q2) u.1,aa (ne a q1) u.2⟩) λob e=>⟨ob,k _ _ e⟩
  fr:=λa L e=>by
   by_cases q:a=N
   ·rw [q,Ed] at e;exact bW e
   rw [ne a q] at e
   have:=G.fr a L e
   exact aa (ne L (λz=>by rw [z,(zP N (cb _)).2] at this;exact bW this)) this
  excl:=λa e=>by
   by_cases q2:a=N+1
   ·refine aa q2 (aa (ne _ (Iu N)) ?_);exact (zP (N+1) (l6 N)).2
   rw [wU a q2] at e
   have q1:a≠N:=λz=>by rw [z] at e;exact e (zP N (cb _)).1
   exact aa (ne a q1) (G.excl a e)
  own:=λa o e=>by
   by_cases q2:a=N+1
   ·subst q2;rw [sN] at e
    cases e;exact ⟨N,[],0,e2,e1,Ed, .xW⟩
   rw [wU a q2] at e
   exact (G.own a o e).bb S (λob g=>k a ob g) λd ob q g=>⟨aa (ne d (dz (lt _ _ g))) q,k d ob g⟩
  dict:=λd a e=>by
   by_cases q:d=N
   ·subst q;replace e:=Ed▸e;cases e;exact ⟨C,[],sN,e2⟩
   rw [ne d q] at e
   refine jL (G.dict d a e) λC' fs z g=> ?_
   have l:=lt _ _ g
   exact ⟨C',fs,aa (wU a (dz (pK l))) z,k _ _ g⟩
  tab:=λt ht=>by
   have h:=G.tab t ht
   refine aa (ne _ (λz=>by rw [z,(zP N (cb _)).2] at h;exact bW h)) ?_;exact h},S,λb ob L e J g=>⟨aa (ne b (dz (lt _ _ g))) e,k b ob g⟩,λb ob L e g=>⟨.inl (aa (ne b (dz (lt _ _ g))) e),ob,k b ob g⟩⟩
theorem bk.ZJ(G:bk X σ κ s):∃κ',bk X (σ.set (s.heap.objs.size+1) (.inst C [])) κ' {s with heap:=(s.heap.push emptyDict).push (instObj C s.heap.objs.size)}/\
  be (λJ=>False) σ κ s.heap (σ.set (s.heap.objs.size+1) (.inst C [])) κ' ((s.heap.push emptyDict).push (instObj C s.heap.objs.size)) :=
 ⟨λb=>if b=s.heap.objs.size then .dict (s.heap.objs.size+1) else κ b,G.ZI rfl (if_pos rfl) (λb q=>if_neg q) (if_pos rfl) (λb q=>if_neg q) (λb ob e=>fq _ (fq _ e)) (fq _ (cV _ rfl)) (by
  have:=cV (o:=instObj C s.heap.objs.size) (s.heap.push emptyDict) rfl
  rwa [oa] at this)⟩
theorem ZL(G:bk X σ κ s):σ (s.heap.objs.size+1)=none:=by
 cases e:σ (s.heap.objs.size+1) with
 | none=>rfl
 | some o =>
  obtain ⟨ob,q⟩:=G.lt (s.heap.objs.size+1) λu=>by replace e:=u.1▸e;cases e
  exact absurd (cR q) (dA.mpr (l6 _))
theorem cG.make{dH:List Value}{kw:List (Str×Value)}(r:cG (n+1) A):cG n (A.under (.builtin "type.__call__" ⟨.ref C::dH,kw⟩)) :=
 ⟨r.handled,by have:=r.depth;show A.depth+1+_≤_;exact xX this (nb rfl),by
  have:=r.units
  have e:(A.under (.builtin "type.__call__" ⟨.ref C::dH,kw⟩)).units=A.units+1:=by rfl
  refine aa e ?_;exact xX this (nb rfl)⟩
theorem call_cls(ok:eY X){f:Addr}(hi:BD.lookup C=some f){args:List ab}{dD:List (Str×ab)}{K:ab->aq->Prop}
  (h:∀a,σ a=none->az X n (.ref f) (.ref a::args) dD (λv σ'=>v= .none/\K (.ref a) σ') (σ.set a (.inst C []))):az X (n+1) (.ref C) args dD K σ:=by
 refine o4 (ok.yB C f hi) λhm hf ht=>⟨λA κ s y ys dE hr G hy hv Dc=> ?_⟩;cases hy.bQ
 have ll:=ok.K.keeps G.keep
 have Y:=makes_of (M:=X.M) ll hm
 refine OO Y.obj λoc od cd sl hC e1 e2 e4=>⟨⟨.machine,λA' Q E q=> ?_⟩, ?_⟩
 ·unfold keeperOf;refine fB (λq=>u0 hC q) (aE (oz Y.call (λJ J e=>e) ?_));exact aY q
 refine o7 (kT rfl ?_);refine fB (λq=>u0 hC q) (fB (λq=>oz Y.call (λJ J e=>e) q) ?_);dsimp only;refine aa (tc_bind ..) (aE (aY (aE (aY ?_))));refine aY (a:=Fin.again (.call (.builtin "type.__call__") ⟨.ref C::ys,_⟩)) (And.intro rfl ?_);refine kT rfl (aE (bc (check_slot tc_kind tc_split Y.typ (tc_args _ _ _) ?_)));refine aY ⟨Kn _ (by decide +kernel),DB (by decide +kernel) entry_typeCall ?_⟩;unfold fY.«type.__call__»;refine kA rfl (fB (λq=>oz (((ZM (part:=none) hC).andThen .now).andThen .now) (λJ J e=>e) q) ?_);refine kA e4 (aE (oz Y.made (λJ J e=>e) ?_));refine aE (aY ?_);obtain ⟨hh,g,d,t,os⟩:=s;refine fB (λq=>cj (o7 (Gn (new_K (init:= .ref f) Y (looks_findIn ll hf) (.inl rfl) q)))) ?_;dsimp only;refine aB (G.ZJ (C:=C)) λκ' G' ev=> ?_
 have k:∀b o,hh.get? b=some o->((hh.push emptyDict).push (instObj C hh.objs.size)).get? b=some o:=λb o e=>fq _ (fq _ e)
 have hx:((hh.push emptyDict).push (instObj C hh.objs.size)).get? (hh.objs.size+1)=some (instObj C hh.objs.size):=by heap_get
 have t1:Looks X.M ((hh.push emptyDict).push (instObj C hh.objs.size)) (typeOf (.ref (hh.objs.size+1))) (.ref C):=(ZM hx).andThen .now
 refine fB (λq=>aE (oz t1 (λJ J e=>e) (oz (Y.self.keeps k) (λJ J e=>e) q))) (kA rfl ?_);refine aE (cj ?_);refine fB (λq=>aE (oz t1 (λJ J e=>e) (oz ((looks_findIn ll hf (M:=X.M)).keeps k) (λJ J e=>e) q))) (cj (aE (oz ((bind_fn ll (.ref (hh.objs.size+1)) ht (M:=X.M)).keeps k) (λJ J e=>e) ?_)));obtain ⟨-,q⟩:=(h (hh.objs.size+1) (ZL G)).run _ κ' _ (.ref f) (.ref (hh.objs.size+1)::ys) dE hr.make G' (.raw _) (.cons (.raw _) (hv.mono ev.bb)) (Dc.mono ev.bb);refine aE (eS q (λz s' p=> ?_) λJ J x=>x.elim);obtain ⟨v,σ',bN,G2,ZN,vr,rfl,hK⟩:=p;cases vr.bQ;exact aY (aY ⟨_,σ',bN,G2,ev.trans ZN, .raw _,hK⟩)
end
end
noncomputable def t8:List (Addr×Fn):= [
 (67,Qw),(88,Qx),(95,Qy),(102,Qz),(107,QA),(114,QB),(121,QC),(128,QD),(135,QE),
 (142,QF),(149,QG),(156,QH),(163,QI),(168,QJ),(173,QK),(180,QL),(185,QM),(190,QN),(195,QO),
 (202,QP),(207,QQ),(214,QR),(221,QS),(226,QT),(231,QU),(236,QV),
 (250,QW),(255,QX),(262,QY),(269,QZ),(276,Q0),(283,Q3),(288,Q4),(295,Q5),(302,Q6),
 (307,Q7),(314,Q8),(321,Q9),(328,Ra),(335,Rb),
 (356,Rc),(363,Rd),(370,Re),(377,Rf),(384,Rg),(391,Rh),(398,Ri),(405,Rj),
 (469,Rk),(476,Rl),(483,Rm),(490,Rn),(497,Ro),(504,Rp),
 (527,Rq),(534,Rr),(541,Rs),(548,Rt),(596,Ru),(610,Rv),
 (652,Rx),(666,Ry),(673,Rz),(680,RA),(687,RB),(694,RC),(701,RD),(708,RE),(715,RF),(729,RG),
 (750,RH),(757,RI),(764,RJ),(769,RK),(776,RL),(781,B1),(786,B2),(793,RM),(798,lY),(805,HB)]
structure Ctx(X:Cx):Prop where
 ok:eY X
 hg:yC X lZ
 fns:∀p∈t8,∃fd lam,pS X p.1 p.2 fd lam/\fd.defaults= .none
def i5(K:ab->aq->Prop)(fl:cn)(st:St):Prop:=match fl with
 | .ret v=>K v st.σ
 | .next=>K .none st.σ
 | _=>False
section
variable{X:Cx}{n:Nat}
theorem Ctx.call(C:Ctx X){f:Fn}(i:Nat)(e:t8[i]? =some (a,f)){args:List ab}{K:ab->aq->Prop}(hl:args.length=f.params)
  (h:dy X n f.body (i5 K) {m:=args.map some++cf (f.ae - f.params) none,fz:= [],σ:=σ}):az X (n+1) (.ref a) args [] K σ:=by
 obtain ⟨fd,lam,D,hd⟩:=C.fns (a,f) (cr e);exact Db C.ok (DI C.ok) D7 C.hg D (VI D.c hd hl) hl h
end
theorem dW:Guard [] st:=λJ=>nofun
section
variable{α ι:Type}{own:List (Addr×List ab)}{st:St}(bs:List Bool)
theorem ZO{step:ab->St->(cn->St->Prop)->Prop}{K:cn->St->Prop}(g:α->ab)(S:ι->St)(l:List α):∀(P:Nat->ι->Prop) (x:ι),P 0 x->(∀i x,P i x->Guard own (S x))->
  (∀i a x (K':cn->St->Prop),l[i]? =some a->P i x->(∀y st',P (i+1) y->gx bs st'=S y->K' .next st')->(∀v st',K (.ret v) st'->K' (.ret v) st')->step (g a) (S x) K')->
  (∀x,P l.length x->K .next (S x))->pB own step K (l.map g) (S x):=by
 induction l with
 | nil=>exact λP x h0 hg J hK=>⟨hg 0 x h0,hK x h0⟩
 | cons a l ih=>exact λP x h0 hg hs hK=>⟨hg 0 x h0,hs 0 a x _ rfl h0 (λy st' hy e=>⟨bs,e▸ih (λi=>P (i+1)) y hy (λi=>hg (i+1)) (λi b x K' q=>hs (i+1) b x K' (ZP.trans q)) hK⟩) λJ J h=>h⟩
theorem loop{step:ab->St->(cn->St->Prop)->Prop}{K:cn->St->Prop}(l:List α)(g:α->ab)(S:ι->St)(P:Nat->ι->Prop)(x:ι)(h0:P 0 x)(hg:∀i x,P i x->Guard own (S x))
  (hs:∀i a x (K':cn->St->Prop),l[i]? =some a->P i x->(∀y st',P (i+1) y->gx bs st'=S y->K' .next st')->(∀v st',K (.ret v) st'->K' (.ret v) st')->step (g a) (S x) K')
  (hK:∀x,P l.length x->K .next (S x)) (e:items=l.map g:=by rfl) (e0:gx bs st=S x:=by rfl):Wk (pB own step K items) st :=
 e▸⟨bs,e0▸ZO bs g S l P x h0 hg hs hK⟩
theorem jY{step:ab->St->(cn->St->Prop)->Prop}{K:cn->St->Prop}(l:List α)(g:α->ab)(f:ι->α->ι)(S:ι->St)(P:Nat->ι->Prop)(x:ι)(h0:P 0 x)(hP:∀i a x,l[i]? =some a->P i x->P (i+1) (f x a))(hg:∀x,Guard own (S x))
  (hs:∀i a x (K':cn->St->Prop),l[i]? =some a->P i x->(∀y st',y=f x a->gx bs st'=S y->K' .next st')->(∀v st',K (.ret v) st'->K' (.ret v) st')->step (g a) (S x) K')
  (hK:P l.length (l.foldl f x)->K .next (S (l.foldl f x))) (e:items=l.map g:=by rfl) (e0:gx bs st=S x:=by rfl):Wk (pB own step K items) st :=
 loop bs l g S (λi y=>P i y/\y=(l.take i).foldl f x) x ⟨h0,rfl⟩ (λJ y J=>hg y) (λi a y K' q h k r=>hs i a y K' q h.1 (λz st' e=>k z st' ⟨e▸hP i a y q h.1,by refine aa ow (aa q (aa rM (ao h.2 ?_)));exact e⟩) r)
  (λy h=>by obtain ⟨h,rfl⟩:=h;rw [kD] at h ⊢;exact hK h) e e0
theorem ZQ{step:ab->St->(Option ab->St->Prop)->Prop}{K:List ab->St->Prop}(g:α->ab)(S:ι->St)(l:List α):∀(P:Nat->List ab->ι->Prop) (acc:List ab) (x:ι),P 0 acc x->(∀i acc x,P i acc x->Guard own (S x))->
  (∀i a acc x (K':Option ab->St->Prop),l[i]? =some a->P i acc x->(∀r y st',P (i+1) (acc++r.toList) y->gx bs st'=S y->K' r st')->step (g a) (S x) K')->
  (∀acc x,P l.length acc x->K acc (S x))->lW own step K (l.map g) acc (S x):=by
 induction l with
 | nil=>exact λP acc x h0 hg J hK=>⟨hg 0 acc x h0,hK acc x h0⟩
 | cons a l ih=>exact λP acc x h0 hg hs hK=>⟨hg 0 acc x h0,hs 0 a acc x _ rfl h0 λr y st' hy e=>⟨bs,e▸by
   have go:=λro hy=>ih (λi=>P (i+1)) ro y hy (λi=>hg (i+1)) (λi b acc x K' q=>hs (i+1) b acc x K' (ZP.trans q)) hK
   cases r with
   | none=>exact go acc (ao (iU acc) hy)
   | some v=>exact go (acc++ [v]) hy⟩⟩
theorem Ee{step:ab->St->(Option ab->St->Prop)->Prop}{K:List ab->St->Prop}(l:List α)(g:α->ab)(S:ι->St)(P:Nat->List ab->ι->Prop)(x:ι)(h0:P 0 [] x)(hl:l.length≤100000)(hg:∀x,Guard own (S x))
  (hs:∀i a acc x (K':Option ab->St->Prop),l[i]? =some a->P i acc x->(∀r y st',P (i+1) (acc++r.toList) y->gx bs st'=S y->K' r st')->step (g a) (S x) K')
  (hK:∀acc x,P l.length acc x->K acc (S x)) (e:items=l.map g:=by rfl) (e0:st=S x:=by rfl):dQ items.length/\lW own step K items [] st :=
 e▸⟨by refine aa (aC ..) ?_;exact ag hl (nb rfl),e0▸ZQ bs g S l P [] x h0 (λJ J x J=>hg x) hs hK⟩
theorem qe{step:ab->St->(Option ab->St->Prop)->Prop}{K:List ab->St->Prop}(l:List α)(g:α->ab)(f:α->Option ab)(hl:l.length≤100000)
  (hs:∀a∈l,∀(K':Option ab->St->Prop),(∀r st',r=f a->gx bs st'=st->K' r st')->step (g a) st K')
  (hK:K (l.filterMap f) st) (e:items=l.map g:=by rfl) (hg:Guard own st:=by exact dW):dQ items.length/\lW own step K items [] st :=
 Ee bs l g (λ(_:Unit)=>st) (λi acc J=>acc=(l.take i).filterMap f) () rfl hl (λJ=>hg) (λi a acc J K' q h k=>hs a (cr q) K' λr st' hr=>k r () st' (by
   refine aa ow (aa q (aa Lk (aa h (aa hr ?_))));refine (?_:_=_++ [a].filterMap f);cases z:f a with
   | none=>refine aa (C3 z) ?_;rfl
   | some v=>refine aa (y8 z) ?_;rfl)) (λacc J h=>by refine aa h (aa kD ?_);exact hK) e
theorem fe{step:ab->St->(Option ab->St->Prop)->Prop}{K:List ab->St->Prop}(l:List α)(g f:α->ab)(hl:l.length≤100000)
  (hs:∀a∈l,∀(K':Option ab->St->Prop),(∀v st',v=f a->gx bs st'=st->K' (some v) st')->step (g a) st K')
  (hK:K (l.map f) st) (e:items=l.map g:=by rfl) (hg:Guard own st:=by exact dW):dQ items.length/\lW own step K items [] st :=
 qe bs l g (λx=>some (f x)) hl (λa ha K' k=>hs a ha K' λv st' h=>k _ st' (congrArg some h)) (List.filterMap_eq_map (f:=f)▸hK) e hg
end
theorem jh{ι:Type}{turn:(cn->St->Prop)->(St->Prop)->St->Prop}{K:cn->St->Prop}(bs:List Bool)(S:ι->St)(μ:ι->Nat)(P:ι->Prop)(x:ι)(hx:P x)
  (h:∀x (K':cn->St->Prop),P x->(∀y st',μ y<μ x->P y->gx bs st'=S y->K' .next st')->turn K' (K .next) (S x)) (e0:gx bs st=S x:=by rfl):pC turn K st :=
 ⟨S,μ,P,x,bs,hx,e0,λx hx=>h x _ hx λy J a b c=>⟨y,bs,a,b,c⟩⟩
theorem half{A B:Type}{turn:(cn->St->Prop)->(St->Prop)->St->Prop}{K:cn->St->Prop}{L:Nat->A->B->Nat->A}{op:A->B->A}{dbl:B->B}(h0:∀f x y,L 0 f x y=f)(hs:∀k f x y,L (k+1) f x y=if 0<y then L k (if y &&& 1=1 then op f x else f) (dbl x) (y / 2) else f)
  (ok:A->B->Prop) (Lm:∀f x,ok f x->ok f (dbl x)/\ok (op f x) (dbl x)) (S:A->B->Nat->St) (f:A) (x:B) (y:Nat) (hy:y<256) (ee:ok f x)
  (h:∀f' x' y' (K':cn->St->Prop),ok f' x'->y'<256->(0<y'->∀g st',g=(if y' &&& 1=1 then op f' x' else f')->st'=S g (dbl x') (y' / 2)->K' .next st')->(¬ 0<y'->f'=L 8 f x y)->turn K' (K .next) (S f' x' y')) (e0:st=S f x y:=by rfl):pC turn K st:=by
 refine jh (ι:=A×B×Nat×Nat) [] (λt=>S t.1 t.2.1 t.2.2.1) (λt=>t.2.2.2) (λt=>ok t.1 t.2.1/\(t.2.2.1<2^t.2.2.2/\t.2.2.2≤8)/\L t.2.2.2 t.1 t.2.1 t.2.2.1=L 8 f x y) (f,x,y,8) ⟨ee,⟨hy,cb _⟩,rfl⟩ (λt K' P k=> ?_) e0;refine h t.1 t.2.1 t.2.2.1 K' P.1 (et P.2.1.1 (Ln (nb rfl) P.2.1.2)) (λq g st' hg e=> ?_) λq=> ?_
 ·have h2:=P.2.1
  have h4:=P.2.2
  rcases z:t.2.2.2 with _ | k'<;>rw [z] at h2 h4
  ·exact absurd h2.1 (dA.mpr q)
  ·refine k (g,dbl t.2.1,t.2.2.1 / 2,k') st' (z▸jr _) ⟨?_,⟨Nat.div_lt_of_lt_mul (ao (uT ..) h2.1),ig h2.2⟩, ?_⟩ e
   ·refine aa hg ?_;split;exact (Lm _ _ P.1).2;exact (Lm _ _ P.1).1
   ·exact ao h4 (aa (hs ..) (aa (if_pos q) (aa hg rfl)))
 ·have h4:=P.2.2
  rcases z:t.2.2.2 with _ | k'<;>rw [z] at h4
  ·exact (h0 ..).symm.trans h4
  ·exact ao h4 (aa (hs ..) (aa (if_neg q) rfl))
theorem join{X:Cx}{n:Nat}{ι:Type}{i j:IS}{is:List IS}{K:cn->St->Prop}(S:ι->St)(P:ι->Prop)(h:∀(K':cn->St->Prop),(∀y st',P y->st'=S y->K' .next st')->(∀v st',K (.ret v) st'->K' (.ret v) st')->wpS X n i K' st)
  (h':∀y,P y->dy X n (j::is) K (S y)):dy X n (i::j::is) K st:=h _ (λy J hy e=>e▸h' y hy) λJ J h=>h
theorem Lo(n:Nat):∀{lo:Int},kY lo n=(aK n).map λi=>ab.int (lo+(i:Nat)):=by
 induction n with
 | zero=>exact λ{lo}=>rfl
 | succ n ih =>
  intro lo;refine aa (show kY lo (n+1)= .int lo::kY (lo+1) n from rfl) (aa (ih (lo:=lo+1)) (aa BH (aa eN (aa dj ?_))))
  congr 1
  ·simp
  ·refine fV λi J=>(?_:ab.int _=ab.int _)
   congr 1;simp;exact (Tg ..).trans (congrArg _ (vI ..))
theorem jj{i:Nat}{K:St->Prop}(h:K (st.jj i v))(e:nV i st=true:=by rfl):pz i v st K:=cX.i e h
section
variable{a b:Nat}{A B:Prop}
theorem fg(h:a<b->A)(h':¬ a<b->B):bf (decide ((a:Int)<(b:Int))) A B:= .d (λq=>h (il.mp q)) λq=>h' λz=>q (il.mpr z)
theorem qf(h:a≤b->A)(h':¬ a≤b->B):bf (decide ((a:Int)≤(b:Int))) A B:= .d (λq=>h (dT.mp q)) λq=>h' λz=>q (dT.mpr z)
theorem rU(h:a=b->A)(h':a≠b->B):bf (decide ((a:Int)=(b:Int))) A B:= .d (λq=>h (kE.mp q)) λq=>h' λz=>q (kE.mpr z)
theorem wV(h:a=b->B)(h':a≠b->A):bf (!decide ((a:Int)=(b:Int))) A B:=if q:a=b then .f (aa (decide_eq_true (kE.mpr q)) rfl) (h q) else .t (aa (decide_eq_false λz=>q (kE.mp z)) rfl) (h' q)
end
theorem dt{p:Prop} [Decidable p](h:p):decide p=true:=decide_eq_true h
theorem df{p:Prop} [Decidable p](h:¬ p):decide p=false:=decide_eq_false h
noncomputable def eH(x:Nat):Nat:=if 127<x then (x*2) ^^^ 285 else x*2
noncomputable def i6:Nat->Nat->Nat->Nat->Nat
 | 0,f,_,_=>f
 | k+1,f,x,y=>if 0<y then i6 k (if y &&& 1=1 then f ^^^ x else f) (eH x) (y / 2) else f
theorem ZR{f x y:Nat}:i6 (k+1) f x y=if 0<y then i6 k (if y &&& 1=1 then f ^^^ x else f) (eH x) (y / 2) else f:=rfl
noncomputable def dm(x y:Nat):Nat:=i6 8 0 x y
noncomputable def t9:Nat->Nat->Nat->Nat->Nat
 | 0,f,_,_=>f
 | k+1,f,x,y=>if 0<y then t9 k (if y &&& 1=1 then dm f x else f) (dm x x) (y / 2) else f
theorem ZS{f x y:Nat}:t9 (k+1) f x y=if 0<y then t9 k (if y &&& 1=1 then dm f x else f) (dm x x) (y / 2) else f:=rfl
noncomputable def gj(x y:Nat):Nat:=t9 8 1 x y
noncomputable def qg(x:Nat):Nat:=gj x 254
theorem rV{x:Nat}(h:x<256):eH x<256:=by
 have:∀x:Fin 256,eH x.1<256:=by decide +kernel
 exact this ⟨x,h⟩
theorem wW{x y:Nat}(h:x<256)(h':y<256):x ^^^ y<256:=Nat.xor_lt_two_pow (n:=8) h h'
theorem ZT:∀{f x y:Nat},f<256->x<256->i6 k f x y<256:=by
 induction k with
 | zero=>exact λ{f x y} h _=>h
 | succ k ih =>
  intro f x y h h';refine aa ZR ?_;split
  ·refine ih ?_ (rV h');split
   ·exact wW h h'
   ·exact h
  ·exact h
theorem qh{x y:Nat}(h:x<256):dm x y<256:=ZT (by decide) h
theorem ZU:∀{f x y:Nat},f<256->x<256->t9 k f x y<256:=by
 induction k with
 | zero=>exact λ{f x y} h _=>h
 | succ k ih =>
  intro f x y h h';refine aa ZS ?_;split
  ·refine ih ?_ (qh h');split
   ·exact qh h
   ·exact h
  ·exact h
theorem Ef{x y:Nat}(h:x<256):gj x y<256:=ZU (by decide) h
theorem ZV{x:Nat}(h:x<256):qg x<256:=Ef h
noncomputable abbrev ab.n(x:Nat):ab:= .int (x:Int)
theorem kn{K:ab->aq->Prop}{a b:Nat}(e:a=b)(h:K (.n a) σ):K (.n b) σ:=ao e h
theorem b8{x:Nat}(h:x<256):x≤2^31:=ag (bO h) (nb rfl)
theorem cY{x:Nat}(h:x≤1000000):((x:Int)).natAbs≤2^31:=ag h (nb rfl)
section
variable{X:Cx}(C:Ctx X){n:Nat}{x y:Nat}{K:ab->aq->Prop}{σ:aq}
include C
theorem Lp(hx:x<256)(h:K (.n (eH x)) σ):az X (n+1) (.ref 142) [.n x] [] K σ :=
 C.call 9 rfl rfl (fg (a:=127) (b:=x) (λq=>⟨b8 hx,kn (K:=K) (if_pos q:eH x=_) h⟩) λq=>⟨b8 hx,kn (K:=K) (if_neg q:eH x=_) h⟩)
theorem zQ(hx:x<256)(hy:y<256)(h:K (.n (dm x y)) σ):az X (n+2) (.ref 149) [.n x, .n y] [] K σ :=
 C.call 10 rfl rfl (half (L:=i6) (op:=(λz b9=>z ^^^ b9)) (dbl:=eH) (λJ J J=>rfl) (λJ J J J=>rfl) (λf x=>f<256/\x<256) (λJ J h=>⟨⟨h.1,rV h.2⟩,wW h.1 h.2,rV h.2⟩) (λf x y=>{m:= [some (.n x),some (.n y),some (.n f)],fz:= [],σ:=σ}) 0 x y hy ⟨by decide,hx⟩
  λf x y K' ok hy k kd=>fg (a:=0) (b:=y) (λq=>rU (a:=y &&& 1) (b:=1) (λq2=>Lp C ok.2 ⟨b8 hy,k q _ _ (if_pos q2).symm rfl⟩) λq2=>Lp C ok.2 ⟨b8 hy,k q _ _ (if_neg q2).symm rfl⟩) λq=>kn (K:=K) (kd q).symm h)
theorem Lq(hx:x<256)(hy:y<256)(h:K (.n (gj x y)) σ):az X (n+3) (.ref 156) [.n x, .n y] [] K σ :=
 C.call 11 rfl rfl (half (L:=t9) (op:=dm) (dbl:=λx=>dm x x) (λJ J J=>rfl) (λJ J J J=>rfl) (λf x=>f<256/\x<256) (λJ J h=>⟨⟨h.1,qh h.2⟩,qh h.1,qh h.2⟩) (λf x y=>{m:= [some (.n x),some (.n y),some (.n f)],fz:= [],σ:=σ}) 1 x y hy ⟨by decide,hx⟩
  λf x y K' ok hy k kd=>fg (a:=0) (b:=y) (λq=>rU (a:=y &&& 1) (b:=1) (λq2=>zQ C ok.1 ok.2 (zQ C ok.2 ok.2 ⟨b8 hy,k q _ _ (if_pos q2).symm rfl⟩)) λq2=>zQ C ok.2 ok.2 ⟨b8 hy,k q _ _ (if_neg q2).symm rfl⟩) λq=>kn (K:=K) (kd q).symm h)
theorem ZW(hx:x<256)(h0:x≠0)(h:K (.n (qg x)) σ):az X (n+4) (.ref 163) [.n x] [] K σ :=
 C.call 12 rfl rfl (rU (a:=x) (b:=0) (λq=>absurd q h0) λJ=>Lq C (y:=254) hx (nb rfl) h)
theorem Lr(h1:w<3)(h2:p<m)(h3:m≤6)(h:K (.n (gj 2 (w*(m - 1 - p)))) σ):az X (n+4) (.ref 214) [.n w, .n p, .n m] [] K σ:=by
 refine C.call 21 rfl rfl ?_
 have e:(m:Int) - 1 - (p:Int)=((m - 1 - p:Nat):Int):=by refine aa (nm (Zf h2)) (aa (nm (eB (da p) h2)) ?_);rfl
 have h5:m - 1 - p≤5:=ag (gE ..) (ZX h3 1)
 refine ⟨⟨cY (ag (bO h1) (nb rfl)),by refine aa e ?_;exact cY (ag h5 (nb rfl))⟩, ?_⟩;refine (?_:az X (n+3) (.ref 156) [.int 2, .int ((w:Int)*((m:Int) - 1 - (p:Int)))] [] _ _);refine aa e ?_
 have:w*(m - 1 - p)≤2*5:=Lu (o5 h1) h5
 exact Lq C (x:=2) (nb rfl) (eB this (nb rfl)) h
end
theorem wX{n:Nat}(h:n≤1000000):lT (some (.int (n:Int)))=some n:=by
 refine (?_:(if 0≤(n:Int)/\(n:Int)<2^40 then some ((n:Int)).toNat else none)=some n);exact aa (if_pos ⟨eh _,m9 (dT.mpr h) (by decide)⟩) (aa (mf ..) rfl)
theorem wY{n:Nat}(h:n≤1000000):lV k (some (.int (n:Int)))=some n:=wX h
theorem lk{n:Nat}(h:xT n 1000000=true:=by rfl):dQ n:=sO h
theorem Eg(h:vs.length≤1000000)(k:K (.list vs) st):fR vs st K:= .fz h k
theorem Eh(h:vs.length≤1000000)(k:∀a,st.σ a=none->K (.ref a) (st.put (st.σ.set a (.list vs)))):fR vs st K:= .own h k
noncomputable def Lv(x:UInt8):UInt8:=kF (eH x.toNat)
theorem qi(x:UInt8):x.toNat<256:=UInt8.toNat_lt x
theorem zR{n:Nat}(h:n<256):(kF n).toNat=n:=(UInt8.toNat_ofNat' ..).trans (Nat.mod_eq_of_lt h)
theorem Lw(x:UInt8):(Lv x).toNat=eH x.toNat:=zR (rV (qi x))
noncomputable def jZ(b:List UInt8):List UInt8:=b.map Lv
noncomputable def ub(a b:List UInt8):List UInt8:=yp (λz b9=>z ^^^ b9) a b++a.drop b.length
noncomputable def d6(a b:List UInt8):List UInt8:=if a.length<b.length then ub b a else ub a b
noncomputable def qj:Nat->List UInt8->List UInt8->Nat->List UInt8
 | 0,f,_,_=>f
 | k+1,f,x,y=>if 0<y then qj k (if y &&& 1=1 then d6 f x else f) (jZ x) (y / 2) else f
theorem ZY{f x:List UInt8}{y:Nat}:qj (k+1) f x y=if 0<y then qj k (if y &&& 1=1 then d6 f x else f) (jZ x) (y / 2) else f:=rfl
noncomputable def mw(b:List UInt8)(f:Nat):List UInt8:=qj 8 (cf b.length 0) b f
theorem rX(b:List UInt8):(jZ b).length=b.length:=aC ..
theorem Lx{a:List UInt8}(h:b.length≤a.length):(ub a b).length=a.length:=by
 rewrite [ub];exact aa de (aa D0 (aa f0 (aa (pX h) (aa (lM h) rfl))))
theorem lr(a b:List UInt8):(d6 a b).length=max a.length b.length:=by
 unfold d6;split
 ·next h=>exact aH (Lx (bO h)) (Ly (bO h)) rfl
 ·next h=>exact aH (Lx (fA h)) (Lz (fA h)) rfl
theorem ZZ:∀{k:Nat} {f x:List UInt8} {y:Nat},f.length=x.length->(qj k f x y).length=x.length:=by
 intro k
 induction k with
 | zero=>exact λh=>h
 | succ k ih =>
  intro f x y h;refine aa ZY ?_;split
  ·refine (ih ?_).trans (rX ..);refine aa (rX ..) ?_;split
   ·exact aa (lr ..) (Ly (bS h))
   ·exact h
  ·exact h
theorem rY(b:List UInt8)(f:Nat):(mw b f).length=b.length:=ZZ (by simp)
theorem Z0(a b:List UInt8):qW (dZ a) (dZ b)=(aA a b).map λp=>ab.tuple [.int p.1.toNat, .int p.2.toNat]:=by
 induction a generalizing b with
 | nil=>rfl
 | cons x a ih=>cases b with
  | nil=>rfl
  | cons y b=>exact congrArg _ (ih b)
theorem k5{a:Nat}(h:a≤1000):a≤100000:=ag h (nb rfl)
theorem k6{a:Nat}(h:a≤1000):a≤1000000:=ag h (nb rfl)
theorem Z1{f:α->ab}(h:l.length≤1000)(k:K (.list (l.map f)) st):fR (l.map f) st K:=Eg (aa (aC ..) (k6 h)) k
theorem j0{ws:List ab}(e:vs=ws)(h:ws.length≤1000)(k:K (.list ws) st):fR vs st K:=e▸Eg (k6 h) k
theorem wZ(b:List UInt8):(dZ b).length=b.length:=aC ..
theorem Z2{l:Nat}(hl:l≤1000)(hb:b.length≤1000)(k:K (.bytes (b.drop l)) st):kj (.bytes b) (some (.int (l:Int))) none st K :=
 .bytes b l b.length rfl (wX (k6 hl)) rfl (k6 hb) (aa kD k)
theorem LA{l:Nat}(hl:l≤1000)(hb:b.length≤1000000)(k:K (.bytes (b.take l)) st):kj (.bytes b) none (some (.int (l:Int))) st K :=
 .bytes b 0 l rfl rfl (wY (k6 hl)) hb k
theorem Z3(b:List UInt8):b.map (λx=>ab.n (eH x.toNat))=dZ (jZ b):=by
 unfold dZ jZ;refine aa dj ?_;exact fV λx J=>congrArg ab.n (Lw x).symm
theorem Z4(a b:List UInt8):(aA a b).map (λp=>ab.n (p.1 ^^^ p.2).toNat)=dZ (yp (λz b9=>z ^^^ b9) a b):=by
 unfold dZ;simp [aA,Z5]
theorem Ei{a:List UInt8}:(yp (λz b9=>z ^^^ b9) a b).length≤a.length:=aa D0 (kB ..)
section
variable{X:Cx}(C:Ctx X){n:Nat}{K:ab->aq->Prop}{σ:aq}
include C
theorem Ej(hb:b.length≤1000)(h:K (.bytes (jZ b)) σ):az X (n+1) (.ref 168) [.bytes b] [] K σ :=
 C.call 13 rfl rfl (fe [false,true,true] b (λx=> .int x.toNat) (λx=> .n (eH x.toNat)) (k5 hb) (λx J K' k=>fg (a:=127) (b:=x.toNat) (λq=>⟨b8 (qi x),k _ _ (congrArg ab.n (if_pos q).symm) rfl⟩) λq=>⟨b8 (qi x),k _ _ (congrArg ab.n (if_neg q).symm) rfl⟩)
  (j0 (Z3 b) (by refine aa (wZ ..) (aa (rX ..) ?_);exact hb) (wN (aa (rX ..) (k6 hb)) h)))
theorem zS{a:List UInt8}(ha:a.length≤1000)(hb:b.length≤1000)(h:K (.bytes (d6 a b)) σ):az X (n+1) (.ref 173) [.bytes a, .bytes b] [] K σ :=
 C.call 14 rfl rfl (join (λy:List UInt8×List UInt8=>{m:= [some (.bytes y.1),some (.bytes y.2)],fz:= [],σ:=σ}) (λy=>K (.bytes (ub y.1 y.2)) σ/\y.1.length≤1000/\y.2.length≤1000)
  (λK' k J=>cu rfl (k6 ha) (cu rfl (k6 hb) (fg (λq=>k (b,a) _ ⟨by rwa [d6,if_pos q] at h,hb,ha⟩ rfl) λq=>k (a,b) _ ⟨by rwa [d6,if_neg q] at h,ha,hb⟩ rfl)))
  λy hy=>fe [false,false,true,true,true] (aA y.1 y.2) (λp=> .tuple [.int p.1.toNat, .int p.2.toNat]) (λp=> .n (p.1 ^^^ p.2).toNat) (aa rT (ag (kB ..) (k5 hy.2.1))) (λp J K' k=>k _ _ (congrArg ab.n (Z6 ..).symm) rfl)
  (j0 (Z4 y.1 y.2) (aa (wZ ..) (ag Ei hy.2.1)) (wN (ag Ei (k6 hy.2.1)) (cu rfl (k6 hy.2.2) (Z2 hy.2.2 hy.2.1 (rQ ⟨by
   show _≤_
   refine aa f0 ?_;exact ag (fL (ag Ei hy.2.1) (ag (gE ..) hy.2.1)) (nb rfl),hy.1⟩))))) (Z0 y.1 y.2))
theorem LB{f:Nat}(hb:b.length≤1000)(hf:f<256)(h:K (.bytes (mw b f)) σ):az X (n+2) (.ref 180) [.bytes b, .n f] [] K σ :=
 C.call 15 rfl rfl (cu rfl (k6 hb) (zM (eh _) (dT.mpr (k6 hb))
  (half (L:=qj) (op:=d6) (dbl:=jZ) (λJ J J=>rfl) (λJ J J J=>rfl) (λf x=>f.length≤1000/\x.length≤1000) (λf x h=>aH (rX ..) (lr ..) (⟨h,ue.mpr h,h.2⟩))
   (λf x y=>{m:= [some (.bytes x),some (.n y),some (.bytes f)],fz:= [],σ:=σ}) (cf b.length 0) b f hf ⟨aa pP hb,hb⟩
   λf x y K' ok hy k kd=>fg (a:=0) (b:=y) (λq=>rU (a:=y &&& 1) (b:=1) (λq2=>zS C ok.1 ok.2 (Ej C ok.2 ⟨b8 hy,k q _ _ (if_pos q2).symm rfl⟩)) λq2=>Ej C ok.2 ⟨b8 hy,k q _ _ (if_neg q2).symm rfl⟩)
    λq=>(congrArg (λz=>K z σ) (congrArg ab.bytes (kd q))).mpr h)))
end
theorem i7(n:Nat):kY 0 ((n:Int)).toNat=(aK n).map ab.n:=by
 refine aa (Lo ..) (aa (mf ..) ?_);exact fV λi J=>by show ab.int _=ab.int _;congr 1;simp
theorem LF(a b:Nat):kY (a:Int) ((b:Int) - (a:Int)).toNat=(gZ a (b - a)).map ab.n:=by
 refine aa (Lo ..) (aa (Z7 ..) (aa List.range'_eq_map_range (aa dj ?_)));exact fV λi J=>by show ab.int _=ab.int _;congr 1
theorem Ek(g:α->ab):∀(l:List α) (i:Nat),lX i (l.map g)=(l.zipIdx i).map λp=>ab.tuple [.n p.2,g p.1]:=by
 intro l
 induction l with
 | nil=>exact λJ=>rfl
 | cons x xs ih=>exact λi=>congrArg (ug _) (ih (i+1))
theorem zip_map(f:α->ab)(g:β->ab):∀(a:List α) (b:List β),qW (a.map f) (b.map g)=(aA a b).map λp=>ab.tuple [f p.1,g p.2]:=by
 intro a
 induction a with
 | nil=>exact λb=>by cases b<;>rfl
 | cons x a ih =>
  intro b;rcases b with _ | ⟨y,b⟩
  ·rfl
  ·exact congrArg (ug _) (ih b)
theorem Z8{x:Nat}:∀{l:List Nat},kh (.n x) (l.map .n)=some (decide (x∈l)):=by
 intro l
 induction l with
 | nil=>rfl
 | cons y l ih =>
  refine (congrArg (yn λb=>decide ((y:Int)=(x:Int)) || b) ih).trans (?_:some (decide ((y:Int)=(x:Int)) || decide (x∈l))=_);simp [kE,eq_comm]
theorem uh(f:β->α->β)(z:β){i:Nat}{a:α}(e:l[i]? =some a):(l.take (i+1)).foldl f z=f ((l.take i).foldl f z) a:=by
 refine aa ow (aa e (aa rM ?_));rfl
theorem np{x:Nat}{l:List Nat}{k:Bool->Prop}(hv:eV σ v=some (l.map .n))(h:x∈l->k true)(h':x∉l->k false):vi σ (.n x) v k :=
 have e:(eV σ v).bind (kh (.n x))=some (decide (x∈l)):=aa hv Z8
 if q:x∈l then ⟨true,e.trans (congrArg some (decide_eq_true q)),h q⟩ else ⟨false,e.trans (congrArg some (decide_eq_false q)),h' q⟩
def lu(σ:aq)(v:ab)(vs:List ab):Prop:=v= .list vs∨∃a,v= .ref a/\σ a=some (.list vs)
section
variable{σ:aq}{v:ab}{vs:List ab}(h:lu σ v vs)
include h
theorem lu.of{C:ab->Prop}(f:C (.list vs))(g:∀a,σ a=some (.list vs)->C (.ref a)):C v:=by
 rcases h with rfl | ⟨a,rfl,e⟩
 ·exact f
 ·exact g a e
omit h in
theorem oA(e:σ a=some (.list vs)):mR (σ a)=some vs:=aa e rfl
theorem lu.jR:Mine.Internal.jR σ v=some vs:=h.of (C:=λv=>Mine.Internal.jR σ v=some vs) rfl λJ e=>oA e
theorem lu.len:tZ σ v=some vs.length:=h.of (C:=λv=>tZ σ v=some vs.length) rfl λJ e=>rP e
theorem lu.guard(e:st.σ=σ):Guard (ownOf σ v) st:=h.of (C:=λv=>Guard (ownOf σ v) st) dW λa q p hp=>by
 rw [yi q] at hp
 exact aH (dL.mp hp) e q
omit h in
theorem zT{i:Nat}{w:ab}(hb:i≤1000)(hi:vs[i]? =some w):px (i:Int) vs=some w:=mQ.i (Nat.ble_eq.mpr (eB hb (nb rfl))) hi
theorem lu.sub{i:Nat}{w:ab}{k:ab->Prop}(hi:vs[i]? =some w)(hb:i≤1000)(q:k w):bB (mT σ v i) k :=
 bB.i (h.of (C:=λv=>mT σ v i=some w) (zT hb hi) λa e=>show (mR (σ a)).bind _=_ by refine aa (oA e) ?_;exact zT hb hi) q
theorem lu.mono{σ':aq}(hs:∀a o,σ a=some o->σ' a=some o):lu σ' v vs:=h.elim .inl λ⟨a,e,q⟩=> .inr ⟨a,e,hs a _ q⟩
end
noncomputable def i8(r:List Nat)(f:Nat):List Nat:=r.map (λz=>dm z f)
noncomputable def kG(a b:List Nat):List Nat:=yp (λz b9=>z ^^^ b9) a b
noncomputable abbrev aJ(l:List Nat):ab:= .list (l.map .n)
noncomputable abbrev jB(l:List (List UInt8)):ab:= .list (l.map .bytes)
noncomputable def j3:Nat->List UInt8->List UInt8
 | 0,f=>f
 | n+1,f=>jZ (j3 n f)
theorem LG{n:Nat}{f:List UInt8}:j3 (n+1) f=jZ (j3 n f):=rfl
theorem zU(n:Nat)(f:List UInt8):(j3 n f).length=f.length:=by
 induction n with
 | zero=>rfl
 | succ n ih=>exact aa LG (aa (rX ..) (aa ih rfl))
noncomputable def iu(aV:List (List UInt8))(w:Nat):List UInt8:=aV.foldl (λf p=>d6 (j3 w f) p) []
def Short(aV:List (List UInt8)):Prop:=∀p∈aV,p.length≤1000
theorem ah0(h:Short aV)(w:Nat):(iu aV w).length≤1000:=by
 unfold iu
 suffices ∀(z:List UInt8),z.length≤1000->(aV.foldl (λf p=>d6 (j3 w f) p) z).length≤1000 from this [] (by simp)
 induction aV with
 | nil=>exact λz h=>h
 | cons p ps ih=>exact λz hz=>ih (λq hq=>h q (.tail _ hq)) _ (by refine aa (lr ..) (aa (zU ..) ?_);have:=h p (.head _);exact ue.mpr ⟨hz,this⟩)
theorem Short.take(h:Short aV)(i:Nat):Short (aV.take i):=λp hp=>h p (pg hp)
noncomputable def zV(m w:Nat)(ar:List Nat)(row:List UInt8)(ps:List (List UInt8×Nat)):List UInt8:=ps.foldl (λf p=>if p.2∈ar then f else d6 f (mw p.1 (gj 2 (w*(m - 1 - p.2))))) row
noncomputable def kH(aV:List (List UInt8))(ar:List Nat)(w:Nat)(row:List UInt8):List UInt8:=zV aV.length w ar row aV.zipIdx
theorem Z9(m w:Nat)(ar:List Nat):∀(ps:List (List UInt8×Nat)) (row:List UInt8),row.length≤1000->(∀p∈ps,p.1.length≤1000)->(zV m w ar row ps).length≤1000:=by
 intro ps
 induction ps with
 | nil=>exact λJ h J=>h
 | cons p ps ih=>exact λrow h hp=>ih _ (by
   show (if _ then _ else _:List UInt8).length≤_
   split
   ·exact h
   ·refine aa (lr ..) (aa (rY ..) ?_);have:=hp p (.head _);exact ue.mpr ⟨h,this⟩) λq hq=>hp q (.tail _ hq)
theorem zipIdx_get{i:Nat}{p:α×Nat}(h:l.zipIdx[i]? =some p):p.2=i/\l[i]? =some p.1:=by
 rw [aaa] at h
 cases e:l[i]? with
 | none=>rw [e] at h;simp at h
 | some a=>rw [e] at h;simp at h;subst h;exact ⟨rfl,rfl⟩
theorem rg(h:w≤1000): -2^30<(w:Int)/\(w:Int)<2^30:=⟨Jz (by decide) (eh w),il.mpr (eB h (nb rfl))⟩
theorem nq{f:α->β}{g:β->ab}(h:l.length≤1000)(k:K (.list ((l.map f).map g)) st):fR (l.map λx=>g (f x)) st K :=
 Eg (aa (aC ..) (k6 h)) (by rw [dj] at k;exact k)
theorem nr{a:List α}{b:List β}(h:a.length≤k):(aA a b).length≤k:=aa rT (ag (kB ..) h)
theorem jC{n:Nat}(h:n≤k):(aK n).length≤k:=aa fh h
theorem aab(n:Nat)(f:List UInt8):(aK n).foldl (λf J=>jZ f) f=j3 n f:=by
 induction n with
 | zero=>rfl
 | succ n ih=>refine aa zW (aa rM (aa ih ?_));rfl
noncomputable def El(w:Nat)(f p:List UInt8):List UInt8:=d6 ((aK w).foldl (λf J=>jZ f) f) p
theorem LH{f p:List UInt8}:El w f p=d6 (j3 w f) p:=congrArg (λz=>d6 z p) (aab w f)
theorem aac(aV:List (List UInt8))(w:Nat):aV.foldl (El w) []=iu aV w:=congrArg (λF=>aV.foldl F []) (funext λJ=>funext λJ=>LH)
noncomputable def lx(aV:List (List UInt8))(p:Nat):List (List UInt8):=(aK p).map (iu aV)
noncomputable def LJ(m w:Nat)(ar:List Nat)(f:List UInt8)(p:List UInt8×Nat):List UInt8:=if p.2∈ar then f else d6 f (mw p.1 (gj 2 (w*(m - 1 - p.2))))
theorem LK(a b:List Nat):(aA a b).map (λp=>ab.n (p.1 ^^^ p.2))=(kG a b).map .n:=by
 unfold kG;simp [aA,Z5]
section
variable{X:Cx}(C:Ctx X){n:Nat}{K:ab->aq->Prop}{σ:aq}
include C
theorem aad{r:List Nat}{f:Nat}(hr:∀x∈r,x<256)(hl:r.length≤1000)(hf:f<256)(h:K (aJ (i8 r f)) σ):az X (n+3) (.ref 190) [aJ r, .n f] [] K σ :=
 C.call 17 rfl rfl (fe [false,false,true,true] r .n (λx=> .n (dm x f)) (k5 hl) (λx hx K' k=>zQ C (hr x hx) hf (k _ _ rfl rfl)) (nq hl h))
theorem aae{a b:List Nat}(hl:a.length≤1000)(h:K (aJ (kG a b)) σ):az X (n+1) (.ref 195) [aJ a,aJ b] [] K σ :=
 C.call 18 rfl rfl (fe [false,false,true,true,true] (aA a b) (λp=> .tuple [.n p.1, .n p.2]) (λp=> .n (p.1 ^^^ p.2)) (nr (k5 hl)) (λp J K' k=>k _ _ rfl rfl)
  (j0 (LK a b) (by refine ao (LK ..) (aa (aC ..) ?_);exact nr hl) h) (zip_map .n .n a b))
theorem aaf(hp:Short aV)(hw:w≤1000)(h:K (.bytes (iu aV w)) σ):az X (n+2) (.ref 202) [jB aV, .n w] [] K σ :=
 C.call 19 rfl rfl (jY [false,false,false,true,true] aV .bytes (El w) (λf=>{m:= [some (jB aV),some (.n w),some (.bytes f),none,none],fz:= [],σ:=σ}) (λJ f=>f.length≤1000) [] (nb rfl)
  (λi a x e h=>by refine aa LH (aa (lr ..) (aa (zU ..) ?_));exact ue.mpr ⟨h,hp a (cr e)⟩) (λJ=>dW)
  (λi a x K' e hx k J=>⟨rg hw,jY [false,false,false,false,true] (aK w) .n (λf J=>jZ f) (λf=>{m:= [some (jB aV),some (.n w),some (.bytes f),some (.bytes a),none],fz:= [],σ:=σ}) (λJ f=>f.length≤1000) x hx
   (λJ J x J h=>aa (rX ..) h) (λJ=>dW) (λi j x K' e hx k J=>Ej C hx (k _ _ rfl rfl)) (λhl=>zS C hl (hp a (cr e)) (k _ _ rfl rfl)) (i7 w)⟩)
  λJ=>(congrArg (λz=>K z σ) (congrArg ab.bytes (aac aV w))).mpr h)
theorem aag(hp:Short aV)(hw:p≤1000)(h:K (jB (lx aV p)) σ):az X (n+3) (.ref 207) [jB aV, .n p] [] K σ :=
 C.call 20 rfl rfl ⟨rg hw,fe [false,false,true,true] (aK p) .n (λw=> .bytes (iu aV w)) (jC (k5 hw)) (λx hx K' k=>aaf C hp (ag (bO (fU.mp hx)) hw) (k _ _ rfl rfl)) (nq (jC hw) h) (i7 p)⟩
theorem aah{ar:List Nat}{row:List UInt8}(hp:Short aV)(hl:aV.length≤6)(hw:w<3)(hr:row.length≤1000){pv:ab}(hv:lu σ pv (aV.map .bytes))(h:K (.bytes (kH aV ar w row)) σ) :
  az X (n+5) (.ref 221) [pv,aJ ar, .n w, .bytes row] [] K σ :=
 C.call 22 rfl rfl (bB.i hv.jR (jY [false,false,false,false,false,true,true] aV.zipIdx (λp=> .tuple [.n p.2, .bytes p.1]) (LJ aV.length w ar) (λf=>{m:= [some pv,some (aJ ar),some (.n w),some (.bytes row),some (.bytes f),none,none],fz:= [],σ:=σ}) (λJ f=>f.length≤1000) row hr
  (λi a x e h=>by
   unfold LJ
   split
   ·exact h
   ·refine aa (lr ..) (aa (rY ..) ?_);exact ue.mpr ⟨h,hp _ (cr (zipIdx_get e).2)⟩) (λJ=>hv.guard rfl)
  (λi a x K' e hx k J=>np (x:=a.2) (l:=ar) rfl (λq=>k _ _ (if_pos q).symm rfl) λq=>cu hv.len (by refine aa (aC ..) ?_;exact k6 (ag hl (nb rfl))) (by
   have hz:=zipIdx_get e
   have hq:=hp _ (cr hz.2)
   refine aa (aC ..) ?_;exact Lr C hw (hz.1▸(dr.mp hz.2).1) hl (LB C hq (Ef (nb rfl)) (zS C hx (aa (rY ..) hq) (k _ _ (if_neg q).symm rfl))))) (λJ=>h) (Ek .bytes aV 0)))
end
section
variable {r:List (List Nat)}
theorem bU:(σ.set a o) a=some o:=if_pos rfl
theorem bA{b:Addr}(h:b≠a):(σ.set a o) b=σ b:=if_neg h
theorem rZ{o':d8}:(σ.set a o).set a o'=σ.set a o':=by
 funext b;unfold aq.set;by_cases h:b=a
 ·simp [h]
 ·simp [h]
theorem my(h:σ a=none):∀b ob,σ b=some ob->(σ.set a o) b=some ob:=λb ob e=>by
 rw [bA];exact e
 rintro rfl;rw [h] at e;cases e
theorem mz{b:Addr}(h:(σ.set a o) b=none):b≠a/\σ b=none:=by
 unfold aq.set at h
 by_cases q:b=a
 ·rw [if_pos q] at h;cases h
 ·rw [if_neg q] at h;exact ⟨q,h⟩
theorem w0{K:ab->aq->Prop}(hs:∀b o,σ b=some o->aD b=some o)(h1:aD a=some (.list vs))(h0:σ a=none)(h:K (.list vs) σ):wS K (.ref a) aD:=⟨_,σ,hs, .list h1 h0 (qc.refl vs),h⟩
theorem LL{K:ab->aq->Prop}(hs:∀b o,σ b=some o->aD b=some o)(h:K v σ):wS K v aD:=⟨_,σ,hs, .same v,h⟩
theorem ly{i:Nat}{k:ab->Prop}(h:σ a=some (.list vs))(hi:vs[i]? =some v)(hb:i≤1000)(q:k v):bB (mT σ (.ref a) (i:Int)) k :=
 bB.i (show (mR (σ a)).bind _=_ by refine aa (oA h) ?_;exact zT hb hi) q
theorem oB{i:Nat}{k:ab->Prop}(hi:vs[i]? =some v)(hb:i≤1000)(q:k v):bB (mT σ (.list vs) (i:Int)) k:=bB.i (zT hb hi) q
theorem ui{γ:Type}(l:List α)(p:α->Prop) [DecidablePred p](g:α->β)(h:β->γ):l.filterMap (λx=>if p x then none else some (h (g x)))=(l.filterMap λx=>if p x then none else some (g x)).map h:=by
 induction l with
 | nil=>rfl
 | cons x l ih =>
  refine aH lz lz ?_
  by_cases q:p x
  ·simp only [if_pos q];exact ih
  ·simp only [if_neg q,eN];exact congrArg _ ih
theorem app{X:Cx}{n:Nat}{f:α->ab}{x:α}{K:ab->aq->Prop}(e:v=f x)(hl:l.length≤1000000)(hK:K .none (σ.set a (.list ((l++ [x]).map f)))):az X n (.raw (.builtin "list.append")) [.ref a,v] [] K (σ.set a (.list (l.map f))):=by
 subst e;refine t0 bU (aa (aC ..) hl) (aa rZ ?_);rw [gR] at hK
 exact hK
theorem ah1(f:α->Option β){i:Nat}{p:α}(e:l[i]? =some p):(l.take (i+1)).filterMap f=(l.take i).filterMap f++(f p).toList:=by
 refine aa ow (aa e (aa Lk ?_));cases h:f p<;>simp [h]
noncomputable abbrev lA(l:List Nat):ab:= .tuple (l.map .n)
noncomputable def mx(l:List Nat):Nat:=l.foldr max 0
theorem aai{l:List Nat}{x:Nat}(h:x∈l):x≤mx l:=by
 induction l with
 | nil=>exact absurd h dJ
 | cons y l ih=>exact (bq.mp h).elim (λe=>ao e (Em ..)) λh=>ag (ih h) (LM ..)
theorem LN{l:List Nat}:l≠ []->mx l∈l:=by
 induction l with
 | nil=>exact λh=>absurd rfl h
 | cons y l ih =>
  intro _;rcases l with _ | ⟨z,l⟩
  ·simp [mx]
  have:=ih (DT _ _)
  show max y (mx (z::l))∈_
  exact (wB y (mx (z::l))).elim (λq=>aa (Ly q) (.tail _ this)) λq=>aa (Lz q) (.head _)
noncomputable def oD(aX one:List Nat):List Nat:=one.filterMap λx=>if x∈aX then none else some x
noncomputable def mA(aX one:List Nat):Nat:=if oD aX one= [] then 0 else mx (oD aX one)+1
noncomputable def lB(aP:Nat)(aX:List Nat)(most:Nat)(one:List Nat):List (List Nat) :=
 if one.length<most then (gZ (mA aX one) (aP - mA aX one)).filterMap λp=>if p∈aX then none else some (one++ [p]) else []
noncomputable def gk(aP:Nat)(aX:List Nat)(most:Nat):Nat->List (List Nat)->Nat->Option (List (List Nat))
 | 0,_,_=>none
 | k+1,ci,i=>match ci[i]? with
  | none=>some ci
  | some one=>gk aP aX most k (ci++lB aP aX most one) (i+1)
theorem LO{i:Nat}(e:ci[i]? =none):gk aP aX most (k+1) ci i=some ci:=by
 refine (?_:(match ci[i]? with | none=>some ci | some one=>gk aP aX most k (ci++lB aP aX most one) (i+1))=_);exact aa e rfl
theorem LP{i:Nat}{one:List Nat}(e:ci[i]? =some one):gk aP aX most (k+1) ci i=gk aP aX most k (ci++lB aP aX most one) (i+1):=by
 refine (?_:(match ci[i]? with | none=>some ci | some one=>gk aP aX most k (ci++lB aP aX most one) (i+1))=_);exact aa e rfl
noncomputable def jD(aX:List Nat)(most:Nat):List (List Nat):=if aX.length≤most then [aX] else []
theorem aaj:∀{ci:List (List Nat)} {i:Nat} {r:List (List Nat)},gk aP aX most k ci i=some r->ci.length≤r.length:=by
 induction k with
 | zero=>exact λh=>nn h
 | succ k ih =>
  intro ci i r h;rcases e:ci[i]? with _ | one
  ·rw [LO e] at h;exact ao (aM h) (cb _)
  ·rw [LP e] at h;exact ag (ag (b6 ..) (bS de.symm)) (ih h)
def zX(aP:Nat)(aX:List Nat)(most:Nat)(one:List Nat):Prop:=one.length≤most/\∀x∈one,x∈aX∨x<aP
theorem aak{one x:List Nat}(ho:zX aP aX most one)(h:x∈lB aP aX most one):zX aP aX most x:=by
 unfold lB at h
 split at h
 ·obtain ⟨p,hp,e⟩:=oE.mp h;rw [qH] at hp
  split at e
  ·cases e
  ·cases e;refine ⟨by simp;exact ‹one.length<most›,λy hy=> ?_⟩;rcases jg.mp hy with hy | hy
   ·exact ho.2 y hy
   ·rw [dL] at hy;subst hy;exact .inr (aal hp.2 (lM (bO (Nat.lt_of_sub_pos (Nat.pos_of_lt_add_right (eB hp.1 hp.2))))))
 ·cases h
theorem aam{one:List Nat}(ho:zX aP aX most one):mA aX one≤aP:=by
 unfold mA
 split
 ·exact da _
 ·rename_i h
  obtain ⟨x,hx,e⟩:=oE.mp (LN h)
  split at e
  ·cases e
  ·rename_i h2
   cases e;rcases ho.2 _ hx with h | h
   ·exact absurd h h2
   ·exact h
theorem LQ{i:Nat}{one:List Nat}(h:gk aP aX most k ci i=some r)(e:ci[i]? =some one):0<k/\gk aP aX most (k - 1) (ci++lB aP aX most one) (i+1)=some r:=by
 cases k with
 | zero=>exact nn h
 | succ k=>rw [LP e] at h;exact ⟨rI k,h⟩
theorem aan{i:Nat}(h:gk aP aX most k ci i=some r)(e:ci[i]? =none):ci=r:=by
 cases k with
 | zero=>exact nn h
 | succ k=>rw [LO e] at h;exact aM h
noncomputable def w4(aX one:List Nat)(acc:List (List Nat))(p:Nat):List (List Nat):=if p∈aX then acc else acc++ [one++ [p]]
theorem aao(aX one l:List Nat):∀acc,l.foldl (w4 aX one) acc=acc++l.filterMap λp=>if p∈aX then none else some (one++ [p]):=by
 induction l with
 | nil=>exact λacc=>(iU acc).symm
 | cons p l ih =>
  intro acc;refine aa mq (aa (ih ..) ?_);rewrite [w4];refine aa lz ?_
  by_cases q:p∈aX
  ·exact aa (if_pos q) (aa (if_pos q) rfl)
  ·refine aa (if_neg q) (aa (if_neg q) (aa (lb ..) ?_));rfl
theorem aap{one:List Nat}{acc:List (List Nat)}(h:acc.length≤k):(w4 aX one acc p).length≤k+1:=by
 unfold w4
 split
 ·exact mi h
 ·exact aa de (fO h)
theorem aaq{one:List Nat}:ab.tuple (one.map .n++ [.n p])=lA (one++ [p]):=(congrArg ab.tuple (gR (f:=ab.n) (l₁:=one) (l₂:= [p]))).symm
structure uj(aP:Nat)(aX:List Nat)(most:Nat)(r:List (List Nat))(t:List (List Nat)×Nat×Nat):Prop where
 ok:∀one∈t.1,zX aP aX most one
 run:gk aP aX most t.2.2 t.1 t.2.1=some r
theorem uj.init(hr:gk aP aX most 100 (jD aX most) 0=some r):uj aP aX most r (jD aX most,0,100):=⟨λone ho=>(by
 by_cases q:aX.length≤most
 ·rw [jD,if_pos q,dL] at ho
  subst ho;exact ⟨q,λx hx=> .inl hx⟩
 ·rw [jD,if_neg q] at ho;exact absurd ho dJ),hr⟩
theorem uj.next{i:Nat}{one:List Nat}(h:uj aP aX most r (ci,i,k))(e:ci[i]? =some one):uj aP aX most r (ci++lB aP aX most one,i+1,k - 1) :=
 ⟨λx hx=>(jg.mp hx).elim (h.ok x) (aak (h.ok one (cr e))),(LQ h.run e).2⟩
theorem aar{l:List Nat}(h:l= []):nT σ .NotEq (aJ l) (.list [])=some false:=h▸rfl
theorem ne_nil{l:List Nat}(h:l≠ []):nT σ .NotEq (aJ l) (.list [])=some true:=by
 cases l with
 | nil=>exact absurd rfl h
 | cons=>rfl
section
variable{X:Cx}(C:Ctx X){n:Nat}{K:ab->aq->Prop}{σ:aq}
include C
theorem aas(hr:gk aP aX most 100 (jD aX most) 0=some r)(aR:r.length≤1000)(hm:aP≤10)(aat:most≤10)(c9:aX.length≤10)
  (h:K (.list (r.map lA)) σ):az X (n+1) (.ref 236) [.n aP,aJ aX, .n most] [] K σ:=by
 have hl:aX.length≤1000000:=ag c9 (nb rfl)
 let S:Addr×List (List Nat)->St:=λa=>{m:= [some (.n aP),some (aJ aX),some (.n most),some (.ref a.1),none,none,none,none,none],fz:= [],σ:=σ.set a.1 (.list (a.2.map lA))}
 refine az.out (C.call 25 rfl rfl (join S (λa=>σ a.1=none/\a.2=jD aX most)
  (λK' k J=>cu (k:=aX.length) (congrArg some (aC _)) hl (qf (λq=>Zb (vs:=aX.map .n) rfl (aa (aC ..) hl) (.own lk λa ha=>k (a,[aX]) _ ⟨ha,(if_pos q).symm⟩ rfl)) λq=> .own lk λa ha=>k (a,[]) _ ⟨ha,(if_neg q).symm⟩ rfl)) λ⟨a,fd⟩ ⟨ha,hf⟩=> ?_))
 subst hf
 let S:List (List Nat)×Nat×Nat->St:=λt=>{m:= [some (.n aP),some (aJ aX),some (.n most),some (.ref a),some (.n t.2.1),none,none,none,none],fz:= [],σ:=σ.set a (.list (t.1.map lA))}
 refine jh [false,false,false,false,false,true,true,true,true] S (λz=>z.2.2) (uj aP aX most r) (jD aX most,0,100) (.init hr) λt K' P k=> ?_;obtain ⟨ci,i,aau⟩:=t
 have iZ:ci.length≤1000:=ag (aaj P.run) aR
 refine cu (k:=ci.length) (aa (rP bU) (aa (aC ..) rfl)) (ag iZ (nb rfl)) (fg (λq=> ?_) λq=> ?_)
 ·have eo:ci[i]? =some ci[i]:=bE q
  generalize ci[i]=one at eo
  have ee:=P.ok one (cr eo)
  have zY:one.length≤10:=ag ee.1 aat
  have vG:(oD aX one).length≤1000:=ag (tN _ _) (ag zY (nb rfl))
  let S2:Nat->St:=λb=>{m:= [some (.n aP),some (aJ aX),some (.n most),some (.ref a),some (.n i),some (lA one),none,some (aJ (oD aX one)),some (.n b)],fz:= [],σ:=σ.set a (.list (ci.map lA))}
  refine ly bU (v:=lA one) (by rw [cW,eo];rfl) (ag (bO q) iZ)
   (qe [false,false,false,false,false,false,false,false,false,true,true] one .n (λx=>if x∈aX then none else some (.n x)) (ag zY (nb rfl)) (λx hx K' k=>np (l:=aX) rfl (λq=>k _ _ (if_pos q).symm rfl) λq=>k _ _ (if_neg q).symm rfl)
   (j0 (ui one (λz=>z ∈aX) id ab.n) (aa (aC ..) vG) (join S2 (λb=>b=mA aX one)
    (λK' k J=> .fz lk ?_) λb hb=> ?_)))
  ·by_cases q4:oD aX one= []
   ·exact bB.i (v:=false) (aar q4) (k 0 _ (by rewrite [mA];exact aa (if_pos q4) rfl) rfl)
   ·refine bB.i (ne_nil q4) (Zi (ns:=(oD aX one).map λ(x:Nat)=>(x:Int)) (aa dj rfl) (aa (aC ..) (List.length_pos_iff.mpr q4)) λM hM v7=> ?_);obtain ⟨y,hy,rfl⟩:=bF.mp hM
    have h1:(mx (oD aX one):Int)≤(y:Int):=v7 _ (nj (LN q4))
    have:y=mx (oD aX one):=yI (aai hy) (dT.mp h1)
    exact k (y+1) _ (by rewrite [mA];exact aH (if_neg q4) this rfl) rfl
  ·subst hb
   have ef:=aam ee
   have hb:mA aX one≤10:=ag ef hm
   let S3:List (List Nat)->St:=λacc=>{m:= [some (.n aP),some (aJ aX),some (.n most),some (.ref a),some (.n i),some (lA one),none,some (aJ (oD aX one)),some (.n (mA aX one))],fz:= [],σ:=σ.set a (.list (acc.map lA))}
   refine join S3 (λacc=>acc=ci++lB aP aX most one)
    (λK' k J=>cu (k:=one.length) (congrArg some (aC _)) (ag zY (nb rfl)) (fg (λq3=>⟨⟨(rg (ag hb (nb rfl))).1,(rg (ag hb (nb rfl))).2,rg (ag hm (nb rfl))⟩, ?_⟩) λq3=>k ci _ (by rewrite [lB];exact aa (if_neg q3) (aa (iU ..) rfl)) rfl)) λJ e=>e▸k (ci++lB aP aX most one,i+1,aau - 1) _ (LR (LQ P.run eo).1 (nb rfl)) (P.next eo) rfl
   refine jY [false,false,false,false,false,false,true,false,false] (gZ (mA aX one) (aP - mA aX one)) .n (w4 aX one) S3 (λj acc=>acc.length≤ci.length+j) ci (cb _)
    (λj p acc J h=>aap h) (λJ=>dW) (λj p acc K' ej i0 k J=>np (l:=aX) rfl (λq=>k _ _ (if_pos q).symm rfl) λq=>⟨_,oy bU,⟨?_,app aaq ?_ (k _ _ (if_neg q).symm rfl)⟩⟩) (λJ=>k _ _ (by refine aa (aao ..) ?_;rewrite [lB];exact aa (if_pos q3) rfl) rfl) (LF _ _)
   ·show _≤_;refine aa (aC ..) ?_;exact ag (fO zY) (nb rfl)
   ·have:=(dr.mp ej).1
    rw [aav] at this
    exact ag i0 (ag (fL iZ (ag (bO this) (ag (gE ..) hm))) (nb rfl))
 ·have:=aan P.run (ir (fA q))
  exact w0 (my ha) (this▸bU) ha h
end
end
section
variable {r:List Nat}
theorem zZ{i:Nat}{K:St->Prop}(h:st.σ a=some (.list vs))(hi:i<vs.length)(hb:i≤1000)(k:K (st.put (st.σ.set a (.list (vs.set i v))))):py (.ref a) (.n i) v st K :=
 ⟨a,vs,i,rfl,h,rfl,⟨eh i,il.mpr (eB hb (nb rfl))⟩,hi,k⟩
theorem qk{i a:Nat}(h:(aK m)[i]? =some a):i=a/\i<m:=by
 obtain ⟨hi,e⟩:=dr.mp h;rw [LU] at e
 exact ⟨e,by rw [fh] at hi;exact hi⟩
theorem aaw{a b:Nat}(h:a≤1000)(h':b≤1000): -2^30<(a:Int)/\(a:Int)<2^30/\ -2^30<(b:Int)/\(b:Int)<2^30:=⟨(rg h).1,(rg h).2,rg h'⟩
theorem cZ{i:Nat}{d:α}(h:i<l.length):l.getD i d=l[i]:=by simp [i9,h]
noncomputable abbrev bj:=List (List Nat)
def iy(m:Nat)(r:List Nat):Prop:=r.length=m/\∀x∈r,x<256
def Sq(m:Nat)(L:bj):Prop:=L.length=m/\∀r∈L,iy m r
noncomputable def dF(L:bj)(i:Nat):List Nat:=L.getD i []
noncomputable def gn(L:bj)(i j:Nat):Nat:=(dF L i).getD j 0
noncomputable def fI(L:bj)(i p:Nat):bj:=(L.set i (dF L p)).set p (dF L i)
noncomputable def ql(i:Nat):List Nat->bj->bj->bj×bj
 | [],L,R=>(L,R)
 | p::ps,L,R=>if p=i then ql i ps L R else
  ql i ps (L.set p (kG (dF L p) (i8 (dF L i) (gn L p i)))) (R.set p (kG (dF R p) (i8 (dF R i) (gn L p i))))
theorem aax{i:Nat}{ps:List Nat}{L R:bj}:ql i (p::ps) L R=if p=i then ql i ps L R else ql i ps (L.set p (kG (dF L p) (i8 (dF L i) (gn L p i)))) (R.set p (kG (dF R p) (i8 (dF R i) (gn L p i)))):=rfl
noncomputable def sd(m:Nat)(L:bj)(i:Nat):List Nat:=(gZ i (m - i)).filterMap λp=>if gn L p i=0 then none else some p
noncomputable def uk(m:Nat):List Nat->bj->bj->Option bj
 | [],_,R=>some R
 | i::is,L,R=>(sd m L i).head?.bind λp=>let x:=ql i (aK m) ((fI L i p).set i (i8 (dF (fI L i p) i) (qg (gn (fI L i p) i i)))) ((fI R i p).set i (i8 (dF (fI R i p) i) (qg (gn (fI L i p) i i))))
   uk m is x.1 x.2
theorem aay{i:Nat}{is:List Nat}{L R:bj}:uk m (i::is) L R=(sd m L i).head?.bind λp=>let x:=ql i (aK m) ((fI L i p).set i (i8 (dF (fI L i p) i) (qg (gn (fI L i p) i i)))) ((fI R i p).set i (i8 (dF (fI R i p) i) (qg (gn (fI L i p) i i))));uk m is x.1 x.2:=rfl
noncomputable def gid(m:Nat):bj:=(aK m).map λi=>(aK m).map λj=>if j=i then 1 else 0
noncomputable def qm(j4:bj):Option bj:=uk j4.length (aK j4.length) j4 (gid j4.length)
noncomputable def se(i:Nat)(x:bj×bj)(p:Nat):bj×bj:=if p=i then x else (x.1.set p (kG (dF x.1 p) (i8 (dF x.1 i) (gn x.1 p i))),x.2.set p (kG (dF x.2 p) (i8 (dF x.2 i) (gn x.1 p i))))
theorem aaz(i:Nat)(ps:List Nat):∀L R,ps.foldl (se i) (L,R)=ql i ps L R:=by
 induction ps with
 | nil=>exact λJ J=>rfl
 | cons p ps ih =>
  intro L R;refine aH mq aax ?_;rewrite [se]
  by_cases q:p=i
  ·exact aH (if_pos q) (if_pos q) (aa (ih ..) rfl)
  ·exact aH (if_neg q) (if_neg q) (aa (ih ..) rfl)
theorem iy.z0(h:iy m r)(f:Nat):iy m (i8 r f):=⟨by rewrite [i8];refine aa (aC ..) ?_;exact h.1,λx hx=>by
 refine aB (bF.mp hx) λy hy a0=> ?_;subst a0;exact qh (h.2 y hy)⟩
theorem iy.LV{a b:List Nat}(h:iy m a)(h':iy m b):iy m (kG a b):=⟨by rewrite [kG];exact aa D0 (aa h.1 (aa h'.1 (aa (rA ..) rfl))),λx hx=>by
 rw [kG,<-List.map_uncurry_zip_eq_zipWith] at hx
 obtain ⟨⟨y,z⟩,hy,rfl⟩:=bF.mp hx;exact wW (h.2 _ (iz hy).1) (h'.2 _ (iz hy).2)⟩
theorem Sq.row{i:Nat}{L:bj}(h:Sq m L)(hi:i<m):iy m (dF L i):=by
 unfold dF;exact aa (cZ (by rw [h.1];exact hi)) (h.2 _ (mu _))
theorem Sq.get{i:Nat}{L:bj}(h:Sq m L)(hi:i<m):(L.map aJ)[i]? =some (aJ (dF L i)):=by
 rw [cW,bE (aa h.1 hi),dF,cZ (aa h.1 hi)];rfl
theorem iy.get{j:Nat}(h:iy m r)(hj:j<m):(r.map ab.n)[j]? =some (.n (r.getD j 0)):=by
 rw [cW,bE (aa h.1 hj),cZ (aa h.1 hj)];rfl
theorem iy.lt{j:Nat}(h:iy m r)(hj:j<m):r.getD j 0<256:=by
 exact aa (cZ (by rw [h.1];exact hj)) (h.2 _ (mu _))
theorem Sq.set{i:Nat}{L:bj}(h:Sq m L)(hr:iy m r):Sq m (L.set i r):=⟨aa kl h.1,λx hx=>by
 rcases aaA hx with hx | rfl
 ·exact h.2 x hx
 ·exact hr⟩
theorem Sq.swap{i:Nat}{L:bj}(h:Sq m L)(hi:i<m)(hp:p<m):Sq m (fI L i p):=(h.set (h.row hp)).set (h.row hi)
theorem aaB{i:Nat}{L:bj}(h:Sq m L)(hi:i<m)(hp:p<m):dF (fI L i p) i=dF L p:=by
 unfold fI
 by_cases q:p=i
 ·subst q;unfold dF;rw [t6,vE (by refine aa kl (aa h.1 ?_);exact hi)];rfl
 ·conv=>lhs;unfold dF
  rw [t6,Cg q,vE (aa h.1 hi)];rfl
theorem aaC(m:Nat):Sq m (gid m):=⟨by simp [gid],λr hr=>by
 refine aB (bF.mp hr) λi J a0=> ?_;subst a0;refine ⟨by simp,λx hx=> ?_⟩;refine aB (bF.mp hx) λj J a0=> ?_;subst a0
 split<;>decide⟩
theorem LW{L:bj}{i:Nat}:(L.map aJ).set i (aJ r)=(L.set i r).map aJ:=(aaD ..).symm
noncomputable def TS(σ:aq)(a b:Addr)(L R:bj):aq:=(σ.set a (.list (L.map aJ))).set b (.list (R.map aJ))
theorem LX{b:Addr}{L R:bj}(h:a≠b):TS σ a b L R a=some (.list (L.map aJ)):=by rewrite [TS];exact aa (bA h) (aa bU rfl)
theorem En{b:Addr}{L R:bj}:TS σ a b L R b=some (.list (R.map aJ)):=bU
theorem aaE{b:Addr}{L R:bj}{i:Nat}(h:a≠b):(TS σ a b L R).set a (.list ((L.map aJ).set i (aJ r)))=TS σ a b (L.set i r) R:=by
 refine aa LW ?_
 funext c;unfold TS aq.set
 by_cases h1:c=a
 ·subst h1;simp [h]
 ·simp [h1]
theorem aaF{b:Addr}{L R:bj}{i:Nat}:(TS σ a b L R).set b (.list ((R.map aJ).set i (aJ r)))=TS σ a b L (R.set i r):=by
 refine aa LW ?_;rewrite [TS];refine aa rZ ?_;rfl
structure w5(m:Nat)(x:bj×bj):Prop where
 l:Sq m x.1
 r:Sq m x.2
theorem w5.elim{i:Nat}{x:bj×bj}(h:w5 m x)(hi:i<m)(hp:p<m):w5 m (se i x p):=by
 unfold se
 by_cases q:p=i
 ·exact aa (if_pos q) h
 ·exact aa (if_neg q) (⟨h.l.set ((h.l.row hp).LV ((h.l.row hi).z0 _)),h.r.set ((h.r.row hp).LV ((h.r.row hi).z0 _))⟩)
structure Eo(m:Nat)(r:bj)(i:Nat)(x:bj×bj):Prop where
 sq:w5 m x
 go:uk m ((aK m).drop i) x.1 x.2=some r
noncomputable def z7(i p:Nat)(x:bj×bj):bj×bj:=((fI x.1 i p).set i (i8 (dF (fI x.1 i p) i) (qg (gn (fI x.1 i p) i i))),(fI x.2 i p).set i (i8 (dF (fI x.2 i p) i) (qg (gn (fI x.1 i p) i i))))
structure aaG(m:Nat)(r:bj)(i:Nat)(x:bj×bj)(p:Nat)(ps:List Nat):Prop where
 pk:sd m x.1 i=p::ps
 lt:p<m
 ne:gn x.1 p i≠0
 go:uk m ((aK m).drop (i+1)) ((aK m).foldl (se i) (z7 i p x)).1 ((aK m).foldl (se i) (z7 i p x)).2=some r
theorem Eo.step{i:Nat}{r:bj}{x:bj×bj}(P:Eo m r i x)(hi:i<m):∃p ps,aaG m r i x p ps:=by
 have e:=P.go
 rw [vA (aa fh hi),LU,aay] at e
 cases gp:sd m x.1 i with
 | nil=>rw [gp] at e;exact nn e
 | cons p ps =>
  rw [gp] at e
  have:p∈sd m x.1 i:=aa gp (.head _)
  refine aB (oE.mp this) λq hq eq=> ?_;rw [qH] at hq
  by_cases z:gn x.1 q i=0
  ·rw [if_pos z] at eq;exact nn eq
  ·replace eq:=(if_neg z)▸eq;cases eq;exact ⟨p,ps,gp,ao (lM (bO hi)) hq.2,z,by rewrite [z7];refine aa (aaz ..) ?_;exact e⟩
section
variable{σ:aq}{a b:Addr}{L R:bj}{m i:Nat}{r:List Nat}
theorem u3(hi:i<m)(hm:m≤10):i≤1000:=ag (bO hi) (ag hm (nb rfl))
theorem qn{k:ab->Prop}(dc:a≠b)(hL:Sq m L)(hi:i<m)(hm:m≤10)(q:k (aJ (dF L i))):bB (mT (TS σ a b L R) (.ref a) (i:Int)) k:=ly (LX dc) (hL.get hi) (u3 hi hm) q
theorem w7{k:ab->Prop}(hR:Sq m R)(hi:i<m)(hm:m≤10)(q:k (aJ (dF R i))):bB (mT (TS σ a b L R) (.ref b) (i:Int)) k:=ly En (hR.get hi) (u3 hi hm) q
theorem Ep{k:ab->Prop}{s:aq}(hr:iy m r)(hi:i<m)(hm:m≤10)(q:k (.n (r.getD i 0))):bB (mT s (aJ r) (i:Int)) k:=oB (hr.get hi) (u3 hi hm) q
theorem z8{K:St->Prop}(dc:a≠b)(hL:Sq m L)(hi:i<m)(hm:m≤10)(k:K (st.put (TS σ a b (L.set i r) R)))(e:st.σ=TS σ a b L R:=by rfl):py (.ref a) (.n i) (aJ r) st K :=
 zZ (aa e (LX dc)) (by refine aa (aC ..) (aa hL.1 ?_);exact hi) (u3 hi hm) (by refine aa e (aa (aaE dc) ?_);exact k)
theorem z9{K:St->Prop}(hR:Sq m R)(hi:i<m)(hm:m≤10)(k:K (st.put (TS σ a b L (R.set i r))))(e:st.σ=TS σ a b L R:=by rfl):py (.ref b) (.n i) (aJ r) st K :=
 zZ (aa e En) (by refine aa (aC ..) (aa hR.1 ?_);exact hi) (u3 hi hm) (by refine aa e (aa aaF ?_);exact k)
end
theorem aaH{b:Addr}{L R:bj}(ha:σ a=none)(hb:σ b=none):∀c o,σ c=some o->TS σ a b L R c=some o:=λc o e=>by
 rw [TS,bA,bA]
 ·exact e
 ·rintro rfl;exact nn (ha.symm.trans e)
 ·rintro rfl;exact nn (hb.symm.trans e)
theorem aaI(j i:Nat):ab.int (if decide ((j:Int)=(i:Int))=true then 1 else 0)= .n (if j=i then 1 else 0):=by
 by_cases q:j=i
 ·exact aH (if_pos q) (if_pos (decide_eq_true (congrArg _ q))) rfl
 ·exact aH (if_neg q) (if_neg (λh=>q (kE.mp (of_decide_eq_true h)))) rfl
theorem aaJ(m:Nat):(aK m).map (λi=>aJ ((aK m).map λj=>if j=i then 1 else 0))=(gid m).map aJ:=by rewrite [gid];refine aa dj ?_;rfl
theorem aaK{i:Nat}{L:bj}{ps:List Nat}(h:sd m L i=p::ps):(gZ i (m - i)).filterMap (λp=>if gn L p i=0 then none else some (ab.n p))=(p::ps).map .n:=(ui (gZ i (m - i)) (λp=>gn L p i=0) id ab.n).trans (congrArg _ h)
theorem LY{i:Nat}(h:m≤k):(gZ i (m - i)).length≤k:=aa aav (ag (gE ..) h)
theorem aaL{i:Nat}{L:bj}:(sd m L i).length≤m:=ag (tN _ _) (LY (cb m))
section
variable{X:Cx}(C:Ctx X){n:Nat}{K:ab->aq->Prop}{σ:aq}
include C
theorem Aa{f:Nat}(hr:iy m r)(hm:m≤10)(hf:f<256)(h:K (aJ (i8 r f)) σ):az X (n+3) (.ref 190) [aJ r, .n f] [] K σ:=aad C hr.2 (aa hr.1 (ag hm (nb rfl))) hf h
theorem LZ{t:List Nat}(hr:iy m r)(hm:m≤10)(h:K (aJ (kG r t)) σ):az X (n+1) (.ref 195) [aJ r,aJ t] [] K σ:=aae C (aa hr.1 (ag hm (nb rfl))) h
theorem aaM{j4 r:bj}(hr:qm j4=some r)(hs:Sq m j4)(hm:m≤10)(h:K (.list (r.map aJ)) σ):az X (n+5) (.ref 185) [.list (j4.map aJ)] [] K σ:=by
 have hl:=hs.1
 have kI:m≤1000:=ag hm (nb rfl)
 have gD:j4.length≤1000:=ao hl.symm kI
 refine az.out (C.call 16 rfl rfl (cu (k:=m) (congrArg some ((aC _).trans hl)) (k6 kI) (fe [false,false,false,false,false,false,false,false,false,true,true] j4 aJ aJ (k5 gD)
  (λx hx K' k=>K0 (vs:=x.map .n) rfl (by refine aa (aC ..) (aa ((hs.2 x hx).1) ?_);exact k6 kI) (.inl (k _ _ rfl rfl)))
  (Eh (aa (aC ..) (k6 gD)) λa ha=>⟨rg kI,fe [false,false,false,false,false,false,false,false,false,true,true] (aK m) .n (λi=>aJ ((aK m).map λj=>if j=i then 1 else 0)) (jC (k5 kI)) (λi hi K' k=>⟨rg kI,fe [false,false,false,false,false,false,false,false,false,false,false,true,true] (aK m) .n (λj=> .n (if j=i then 1 else 0)) (jC (k5 kI))
   (λj hj K' k=>KY (k _ _ (aaI j i) rfl)) (nq (jC kI) (k _ _ rfl rfl)) (i7 m)⟩)
   (Eh (aa (aC ..) (jC (k6 kI))) λb hb=> ?_) (i7 m)⟩))))
 replace ha:σ a=none:=ha;obtain ⟨Er,hb⟩:=mz (σ:=σ) (a:=a) (o:= .list (j4.map aJ)) hb
 have dc:=Er.symm
 let S1:bj×bj->St:=λy=>{m:= [some (.list (j4.map aJ)),some (.n m),some (.ref a),none,none,some (.ref b),none,none,none],fz:= [],σ:=TS σ a b y.1 y.2}
 refine ⟨rg kI,loop [false,false,false,true,true,false,true,true,true] (aK m) .n S1 (λi x=>Eo m r i x) (j4,gid m) ⟨⟨hs,aaC m⟩,by rw [qm,hl] at hr;exact hr⟩ (λJ J J=>dW) (λi i' x K' ei P k J=> ?_) (λx P=> ?_) (i7 m) (aa (aaJ ..) rfl)⟩
 ·obtain ⟨rfl,hi⟩:=qk ei;refine F9 (P.step hi) λp ps T=> ?_
  have hL:=P.sq.l
  have hR:=P.sq.r
  have w8:=hL.swap hi T.lt
  have w9:=hR.swap hi T.lt
  have iq:=w8.row hi
  have h8:gn (fI x.1 i p) i i<256:=iq.lt hi
  have h9:=ZV h8
  let S:bj×bj->St:=λx=>{m:= [some (.list (j4.map aJ)),some (.n m),some (.ref a),some (.n i),none,some (.ref b),some (aJ (p::ps)),some (.n p),none],fz:= [],σ:=TS σ a b x.1 x.2}
  refine ⟨aaw (u3 hi hm) (ag hm (nb rfl)),qe [false,false,false,false,false,false,false,false,false,true,true] (gZ i (m - i)) .n (λp=>if gn x.1 p i=0 then none else some (.n p)) (LY (ag hm (nb rfl)))
   (λp hp K' k=> ?_) (j0 (aaK T.pk) (by refine aa (aC ..) (ao T.pk ?_);exact ag aaL (ag hm (nb rfl))) (.fz lk (qn dc hL T.lt hm (qn dc hL hi hm (z8 dc hL hi hm (z8 dc (hL.set (hL.row T.lt)) T.lt hm
    (w7 hR T.lt hm (w7 hR hi hm (z9 hR hi hm (z9 (hR.set (hR.row T.lt)) T.lt hm (qn dc w8 hi hm (Ep iq hi hm (ZW C h8 (aa (aaB hL hi T.lt) T.ne)
     (qn dc w8 hi hm (Aa C iq hm h9 (w7 w9 hi hm (Aa C (w9.row hi) hm h9 (z8 dc w8 hi hm (z9 w9 hi hm ⟨rg (ag hm (nb rfl)),jY [false,false,false,false,true,false,false,false,true] (aK m) .n (se i) S (λJ=>w5 m) (z7 i p x) ⟨w8.set (iq.z0 _),w9.set ((w9.row hi).z0 _)⟩
      (λj q x e h=>h.elim hi (by have:=qk e;exact ao this.1 this.2)) (λJ=>dW) (λj q x K' e h k J=> ?_) (λh=>k _ _ ⟨h,T.go⟩ rfl) (i7 m)⟩))))))))))))))))))) (LF _ _)⟩
  ·rw [qH] at hp
   have hp:p<m:=ao (lM (bO hi)) hp.2
   exact qn dc hL hp hm (Ep (hL.row hp) hi hm (wV (a:=gn x.1 p i) (b:=0) (λq=>k _ _ (if_pos q).symm rfl) λq=>k _ _ (if_neg q).symm rfl))
  ·obtain ⟨rfl,hj⟩:=qk e;exact wV (a:=j) (b:=i) (λq=>k _ _ (if_pos q).symm rfl) λq=>qn dc h.l hj hm (Ep (h.l.row hj) hi hm (qn dc h.l hj hm (qn dc h.l hi hm (Aa C (h.l.row hi) hm ((h.l.row hj).lt hi) (LZ C (h.l.row hj) hm (z8 dc h.l hj hm
    (w7 h.r hj hm (w7 h.r hi hm (Aa C (h.r.row hi) hm ((h.l.row hj).lt hi) (LZ C (h.r.row hj) hm (z9 h.r hj hm (k _ _ (if_neg q).symm rfl))))))))))))
 ·have e:=P.go
  rw [aaN (cb _)] at e
  exact w0 (aaH ha hb) En hb (aa (aM e) h)
end
end
section
variable{prog:dN}{w:cO}{A:cA}{R:uQ->al->Prop}{s:al}
theorem aaO(h:ai (model prog w) (A.deeper ac) (eval e ac) (λv s'=>R (.ok (.ret v)) s') (λJ J=>False) s):di (model prog w) A (.expr e ac) R s:=by
 refine kT rfl ?_
 show ai _ (A.deeper ac) (do point;ret (<-(eval e ac).onRaise (leaving ac))) _ _ s
 exact aE (Bk (aE (nJ (eS h (λv s' h'=>aY h') λJ J h'=>h'))))
theorem aaP{args:Args}{o:Obj}{body:Expr}(Bo:A.depth<recursionLimit)(ho:s.heap.get? a=some o)
  (fF:o.data= .func fd) (sX:fd.scope.isCoroutine=false) (qM:fd.scope.isGenerator=false) (pf:fd.body= .expr body) (Bp:s.heap.CodeRec fd.code fd.qualname)
  (h:ai (model prog w) A.in1 (bindArgs fd args) (λpe aG =>
   ai (model prog w) A.in1 (newFunctionEnv fd.scope fd.globals fd.closure pe (fd.qualname++ ".<locals>.") (some a) fd.code none fd.builtins)
    (λac br=>br.heap.NoLimit/\di (model prog w) A (.expr body ac) R br) (λe s'=>R (.error e) s') aG) (λe s'=>R (.error e) s') s):di (model prog w) A (.call (.ref a) args) R s:=by
 refine kT rfl (fB (m:=load a) (λq=>bc (qN ho q)) ?_);refine aa fF ?_;obtain ⟨c,oc,vs,tq,hc,uX,uY,hq⟩:=Bp;exact Gx (code:=λac=> .expr body ac) sX qM (λJ=>aa pf rfl) hc uX uY hq (eS h (λpe aG bM=>eS bM (λac br cM=>bc (Px cM.1 Bo ⟨rfl,cM.2⟩)) λJ J h'=>h') λJ J h'=>h')
end
section
variable{X:Cx}{n:Nat}
theorem L1(ok:eY X){t:List UInt8}{K:ab->aq->Prop}(hK:K (.bool (decide (t=b))) σ):az X (n+1) (.lam b) [.bytes t] [] K σ:= .mk λA κ s y ys dE hr G hy hv hk=>by
 obtain ⟨f,c,tk,rfl,hf,hc,hl,vH⟩:=hy.inv;rcases hl with ⟨qual,p,q,scope,pm,ct,co,ps,p1,p2,p3,yH,ma,sX,hl⟩
 refine OQ hl λnM qM aaQ mN hp hq hl=>dP hl λaaR vY=> ?_;obtain ⟨x,ys,rfl,h1,hv⟩:=hv.cons_inv;cases hv.nil_inv;obtain ⟨t',rfl⟩:=h1.inv;refine aa hk.nil_inv (⟨⟨.frame,λA' Q E q=> ?_⟩, ?_⟩)
 ·unfold keeperOf;exact aE (u0 yH (aY q))
 have bt:p≠q:=by simpa using vY
 refine o7 (x7 (R:=λr s'=>∃v σ' κ' z,r= .ok (.ret z)/\bk X σ' κ' s'/\be (λJ=>False) σ κ s.heap σ' κ' s'.heap/\am (aj σ' κ') s'.heap v z/\K v σ') ?_ λr s' ⟨v,σ',κ',z,e,q1,q2,q3,q4⟩=>by subst e;exact ⟨v,σ',κ',q1,q2,q3,q4⟩);refine aaP hr.lt yH rfl aaQ qM rfl ma (?_:ai _ _ (bindArgs _ ⟨[_],[]⟩) _ _ _);refine Jt rfl rfl rfl rfl rfl (fW.mpr ⟨dJ,ye⟩) rfl (bc (wpAny_newFunctionEnv (λx hx=>by
  rw [show (kla_fn "<lambda>" qual _ _ scope _ pm (.ref co) ct).scope.names=scope.names from rfl,mN] at hx
  rcases bq.mp hx with rfl | hx
  ·intro h;cases h
  ·rw [dL] at hx;subst hx;intro h;cases h) (λx hx=>by
   simp only [eN,Yq,tP,VH,dL] at hx
   subst hx;refine (?_:scope.names.lookup p=_);refine aa mN ?_;simp) (λh' kC wo=> ?_) nM))
 refine ⟨(ok.nolimit.keeps G.keep).fresh _ wo,aaO ?_⟩
 have Es:∀b o,s.heap.get? b=some o->h'.get? b=some o:=λb o e=>wo.extBut b o (dz (cR e)) (fq _ e)
 have aaS:scope.names.lookup q=some .free:=by
  refine aa mN (aa kZ (aa (show (q==p)=false by simpa using bt.symm) ?_));simp
 refine Gv ?_ rfl;refine x8 (GB nM (by show scope.names.lookup p=_;refine aa mN ?_;simp) kC (show _=some (rL t.toArray t') by simp) ?_) hp;refine x8 (GD nM aaS (by show [(q,c)].lookup q=_;simp) (vH.keeps Es) ?_ aaR) hq;refine bc (JF t t' b tk _ _ _ _ ?_)
 have G1:=G.ext Es (s':={s with heap:=h',toks:=s.toks+1}) rfl rfl
 exact ⟨_,_,κ,_,rfl,G1, .ext Es, .raw _,hK⟩
end
section
open Sem (wp)
theorem aaT:typeLookup (.type "list") "keys" =pure none:=am_miss_of_fast (by decide +kernel)
theorem aaU{w:cO}{o:Obj}{xs:Array Value}{Q:Option Value->al->Prop}
  (hx:s.heap.get? a=some o) (hc:o.cls= .type "list") (Ab:o.data= .seq xs k) (hd:o.dict=none) (hA:A.handled=none)
  (h:∀h' tk,(∀b ob,s.heap.get? b=some ob->h'.get? b=some ob)->Q none {s with heap:=h',toks:=tk}):wpAny (model prog w) A (getAttr? (.ref a) "keys") Q E s:=by
 obtain ⟨c,ah2,ah3,sl⟩:=o;simp only at hc Ab hd
 subst hc Ab hd;obtain ⟨hp,g,d,tk,os⟩:=s
 have hT:∀rH,(⟨hp,g,d,rH,os⟩:al).TypeIs (.ref a) "list" :=λJ=>⟨_,hx,rfl⟩
 have f1:=sub_AttributeError
 have f3:=L2.lookup
 have f4:=L2.bind (.ref a)
 have f5:=am_list_getattr_none
 have bJ:("keys" :Str).length+100≤sizeLine:=by size_fits
 unfold getAttr? getAttrBy? getAttrBy
 repeat (any_goals (first | assumption | exact hT _ | ((with_reducible show wpAny _ _ (call (ah4 "list.__getattribute__") _ _) _ _ _);refine zi L2 (hT _) am_entry_list_getattribute (F.args_list_getattribute_2 _ _) (meets_getattribute_miss_list a xs k sl "keys" _ aaT (by decide) bJ) ⟨hx,hA,λh' rH e on=> ?_⟩) | wp_step))
 refine F9 on.there λt' u' he=>(?_:wpAny _ _ (getattributeRaised _ _ _ _ _ _ _) _ _ _);unfold getattributeRaised
 repeat (any_goals (first | assumption | exact (show ∀Et,(⟨h',g,d,Et,os⟩:al).TypeIs (.ref e) "AttributeError" from λJ=>⟨_,he,rfl⟩) _ | wp_step))
 exact h h' _ on.keeps
theorem Ac:plainId "dict.update.loop" =true:=by decide +kernel
theorem L3:entryFor table "dict.update.loop" =some fY.«dict.update.loop» :=entryFor_of_fast (by kernel_rfl)
section
variable{prog:dN}{w:cO}{A:cA}{E:Value->al->Prop}{s:al}
theorem aaV{d:Addr}{es:List DictEntry}{n:Nat}{k:Int}{t:Tok}{v:Value}{Q:Unit->al->Prop}(ho:s.heap.get? d=some (dictOf es n))(hk:∀e∈es,∃k' t',e.hash=hashInt k'/\e.key= .int k' t'/\k'≠k)(aR:es.length≤sizeLine)
  (hQ:∀h',h'.get? d=some (dictOf (es++ [⟨hashInt k, .int k t,v⟩]) (n+1))->iI d s.heap h'->Q () {s with heap:=h',toks:=s.toks+1}):wpAny (model prog w) A (dictSet d (.int k t) v) Q E s:=by
 have L4:(intKind prog w).is k (.int k t)=true:=by simp [intKind,zp]
 have aaW:KeysOf (intKind prog w) es.toArray:=λe he=>by
  exact eR (hk e (by simpa using he)) λk' t' h1 h2 J=>⟨k',by refine aa h2 ?_;simp [intKind,zp],h1⟩
 unfold dictSet
 try with_reducible refine kt ?_
 refine au ((intKind prog w).pyHash L4 ?_);unfold dictSetHashed
 try with_reducible refine kt ?_
 refine au (wpAny_dictFind_of (knd:=intKind prog w) (s:={s with toks:=s.toks+1}) L4 ho rfl aaW ?_)
 have f6:(es.toArray.findIdx? λe=>(intKind prog w).is k e.key)=none:=by
  rw [List.findIdx?_toArray,List.findIdx?_eq_none_iff];intro e he;refine eR (hk e he) λk' t' J h2 h3=>aa h2 ?_;simp [intKind,zp,h3]
 refine aa f6 (au (jt (wpAny_updateDictKeys (s:={s with toks:=s.toks+1}) (hz:=by simpa using aR) ho rfl (hQ _ ?_ (mY ..)))));exact aa (vy _ ho rfl) (congrArg (λz=>some ({cls:= .type "dict",data:= .dict z (n+1)}:Obj)) (K4 ..))
noncomputable abbrev ent(p:Int×Tok×Value):DictEntry:=⟨hashInt p.1, .int p.1 p.2.1,p.2.2⟩
theorem aaX{i:Nat}{p:Int×Tok×Value}(d4:(ps.map (λz=>z.1)).Nodup)(hp:ps[i]? =some p)(e:DictEntry)(he:e∈(ps.take i).map ent):∃k' t',e.hash=hashInt k'/\e.key= .int k' t'/\k'≠p.1:=by
 have:=d4.sublist ((aaY (i+1) ps).map (λz=>z.1))
 rw [ow,hp,gR] at this
 refine aB (bF.mp he) λq hq a0=> ?_;subst a0;exact ⟨q.1,q.2.1,rfl,rfl,(L5.mp this).2.2 q.1 (nj hq) p.1 (.head _)⟩
theorem aaZ{i:Nat}{p:Int×Tok×Value}(hp:ps[i]? =some p):(ps.take i).map ent++ [⟨hashInt p.1, .int p.1 p.2.1,p.2.2⟩]=(ps.take (i+1)).map ent:=by
 refine aa ow (aa hp (aa gR ?_));rfl
def xa(h:Heap)(I d:Addr)(items:List Value)(ps:List (Int×Tok×Value)):Prop:=∀(j:Nat) p,ps[j]? =some p->∃T,items[j]? =some (.ref T)/\T≠I/\T≠d/\h.IsTuple T #[.int p.1 p.2.1,p.2.2]
def Eu(I d:Addr)(h h':Heap):Prop:=∀b o,b≠I->b≠d->h.get? b=some o->h'.get? b=some o
theorem xa.kept{h h':Heap}{I d:Addr}{items:List Value}(P:xa h I d items ps)(k:Eu I d h h'):xa h' I d items ps:=λj p hp =>
 (P j p hp).imp λT q=>⟨q.1,q.2.1,q.2.2.1,q.2.2.2.imp λo r=>⟨k T o q.2.1 q.2.2.1 r.1,r.2⟩⟩
theorem aa0{I d:Addr}{fp:List Addr}{St:Nat->Heap->Prop}{items:List Value}(W:Cf prog w A.in1 I fp [I] items.length (λi v=>items[i]? =some v) St)(Ad:d≠I)(Ev:d∉fp)(bJ:ps.length≤100000)
  (d4:(ps.map (λz=>z.1)).Nodup) {i n:Nat} {p:Int×Tok×Value} (bx:i<items.length) (hp:ps[i]? =some p) (bZ:St i s.heap) (hd:s.heap.get? d=some (dictOf ((ps.take i).map ent) n)) (P:xa s.heap I d items ps)
  (next:∀h' tk n',St (i+1) h'->h'.get? d=some (dictOf ((ps.take (i+1)).map ent) n')->Eu I d s.heap h'->codeAny (model prog w) A (.builtin "dict.update.loop" ⟨[.ref d, .ref I,rawInt (i+1:Nat), .none],[]⟩) R {s with heap:=h',toks:=tk}) :
  codeAny (model prog w) A (.builtin "dict.update.loop" ⟨[.ref d, .ref I,rawInt i, .none],[]⟩) R s:=by
 obtain ⟨T,eZ,jX,ah5,o,eo,co,nn,dd⟩:=P i p hp;refine wE L3 (aa (wy Ac _) ?_);refine au (m:=pyNext (.ref I)) (W.item i s _ _ bx bZ λv h' tk hP iP d3=> ?_);obtain rfl:=aM (eZ.symm.trans hP)
 have d3:∀b ob,b≠I->s.heap.get? b=some ob->h'.get? b=some ob:=λb ob q=>d3 b ob λm=>q (dL.mp m)
 have eo:=d3 T o jX eo
 refine au (kt (au (wpAny_tryCatch ?_)));refine bD (m:=typeOf (.ref T)) (λq=>nc (T:= "tuple") ⟨_,eo,co⟩ q) (jx rfl ?_);refine au (lp eo dd (aU ?_));refine kt (m:=dictSet d (.int p.1 p.2.1) p.2.2) (aaV (s:={s with heap:=h',toks:=tk}) (d3 d _ Ad hd) (aaX d4 hp) ?_ λh2 sf nt=> ?_)
 ·exact aa (aC ..) (ag (List.length_take_le' ..) (ag bJ (nb rfl)))
 exact aU ⟨wx Ac _,next h2 (tk+1) (n+1) (W.frame _ _ _ iP λb hb o e=>(nt.2 b (λq=>Ev (ao q hb))).trans e) (ao (aaZ hp) sf) λb ob q1 q2 e=>(nt.2 b q2).trans (d3 b ob q1 e)⟩
theorem aa1{I d:Addr}{fp:List Addr}{St:Nat->Heap->Prop}{items:List Value}(W:Cf prog w A.in1 I fp [I] items.length (λi v=>items[i]? =some v) St)(Ad:d≠I)(Ev:d∉fp)(hl:items.length=ps.length)(bJ:ps.length≤100000)
  (d4:(ps.map (λz=>z.1)).Nodup):∀(k i:Nat) (s:al) (n:Nat),i+k=items.length->St i s.heap->s.heap.get? d=some (dictOf ((ps.take i).map ent) n)->xa s.heap I d items ps->
   (∀h' tk n',h'.get? d=some (dictOf (ps.map ent) n')->Eu I d s.heap h'->R (.ok (.ret .none)) {s with heap:=h',toks:=tk})->
   codeAny (model prog w) A (.builtin "dict.update.loop" ⟨[.ref d, .ref I,rawInt i, .none],[]⟩) R s:=by
 intro k
 induction k with
 | zero =>
  intro i s n hk bZ hd _ hR;obtain rfl:i=items.length:=hk;rw [hl,kD] at hd
  refine wE L3 (aa (wy Ac _) ?_);refine au (m:=pyNext (.ref I)) (W.done s _ _ bZ λh' tk d3=> ?_)
  have d3:∀b ob,b≠I->s.heap.get? b=some ob->h'.get? b=some ob:=λb ob q=>d3 b ob λm=>q (dL.mp m)
  exact au (aU (aU (hR h' tk n (d3 d _ Ad hd) λb o q1 J=>d3 b o q1)))
 | succ k ih =>
  intro i s n hk bZ hd hT hR
  have bx:i<items.length:=ao hk (yK (rI k))
  exact aa0 W Ad Ev bJ d4 bx (bE (ao hl bx)) bZ hd hT λh2 tk n' aa2 sf k2=>ih (i+1) {s with heap:=h2,toks:=tk} n' (aa (qG i k) hk) aa2 sf (hT.kept k2) λh3 aa3 n3 xb xc=>hR h3 aa3 n3 xb λb o q1 q2 e=>xc b o q1 q2 (k2 b o q1 q2 e)
end
section
variable{X:Cx}{n:Nat}
noncomputable def sg:List Int->List ab->List ab
 | k::ks,v::vs=> .tuple [.int k,v]::sg ks vs
 | _,_=> []
theorem aa4{h:Heap}{k:Int}(r:am U h (.tuple [.int k,v]) y):∃T t x,y= .ref T/\U T/\h.IsTuple T #[.int k t,x]/\am U h v x:=by
 refine eK r.inv λT items a0 u ht hv=> ?_;subst a0;refine eR hv.cons_inv λa ah6 a0 ha jq=> ?_;subst a0;refine eR jq.cons_inv λx ah7 a0 hx hV=> ?_;subst a0;obtain ⟨t,rfl⟩:=ha.int_inv;cases hV.nil_inv;exact ⟨T,t,x,rfl,u,ht,hx⟩
theorem aa5{h:Heap}{ks:List Int}:∀{vs:List ab} {ys:List Value},ks.length=vs.length->aN U h (sg ks vs) ys->∃ps:List (Int×Tok×Value),ps.map (λz=>z.1)=ks/\aN U h vs (ps.map (λz=>z.2.2))/\
  ys.length=ps.length/\∀(j:Nat) p,ps[j]? =some p->∃T,ys[j]? =some (.ref T)/\U T/\h.IsTuple T #[.int p.1 p.2.1,p.2.2]:=by
 induction ks with
 | nil =>
  intro vs ys e r;rcases vs with _ | _
  ·cases r.nil_inv;exact ⟨[],rfl, .nil,rfl,λJ J h=>nn h⟩
  ·exact p8 e
 | cons k ks ih =>
  intro vs ys e r;rcases vs with _ | ⟨v,vs⟩
  ·exact p8 e
  refine eR (VR.cons_inv (v:= .tuple [.int k,v]) (vs:=sg ks vs) r) λy ys a0 r1 r2=> ?_;subst a0;refine qE (ih (qU e) r2) λps h1 h2 h3 h4=>qF (aa4 r1) λT t x a0 u ht hx=> ?_;subst a0;refine ⟨(k,t,x)::ps,congrArg (λz=>k:: z) h1, .cons hx h2,congrArg D4 h3,λj p hp=> ?_⟩;rcases j with _ | j
  ·obtain rfl:=aM hp;exact ⟨T,rfl,u,ht⟩
  ·exact h4 j p hp
theorem aa6{h:Heap}:∀{vs:List ab},aN U h vs (ps.map (λz=>z.2.2))->sQ U h (ps.map (λz=>z.1)) vs (ps.map ent):=by
 induction ps with
 | nil =>
  intro vs r;rcases vs with _ | _
  ·exact .Gf
  ·exact p8 r.length
 | cons p ps ih =>
  intro vs r;rcases vs with _ | ⟨v,vs⟩
  ·exact p8 r.length
  refine eR r.cons_inv λy ys e r1 r2=> ?_;obtain ⟨rfl,rfl⟩:=tO e;exact .Gg r1 (ih r2)
theorem aa7(ok:eY X){ks:List Int}{K:ab->aq->Prop}(ha:σ a=some (.list (sg ks vs)))(hl:ks.length=vs.length)(d4:ks.Nodup)(bJ:ks.length≤1000)(hK:K (.dict ks vs) σ) :
  az X n (.raw (.type "dict")) [.ref a] [] K σ:=by
 refine jz (λa e=>by cases e) λA κ s y hr G h=> ?_;cases h.bQ;obtain ⟨ys,⟨o,eo,co,aa8,nn,dd⟩,aL⟩:=G.own a _ ha;refine qE (aa5 hl aL) λps h1 aa9 h3 h4=>Ku (Q₁:=λobj aG=>obj= .ref s.heap.objs.size/\aG={s with heap:=s.heap.push {cls:= .type "dict",data:= .dict #[]}}) F.kt_called_dict (F.kt_typeCall_dict_1 _) F.entry_dict_init (kt_code_dict_new _ ⟨rfl,rfl⟩) ?_
 rintro obj aG ⟨rfl,rfl⟩
 have jn:(s.heap.push {cls:= .type "dict",data:= .dict #[]}).DictOf (intKind X.prog X.w) s.heap.objs.size []:=ah8 s.heap
 refine ⟨jn.typeIs,F.args_dict_init_2 _ _, ?_⟩
 have Ew:(s.heap.push {cls:= .type "dict",data:= .dict #[]}).get? a=some o:=fq _ eo
 refine bD (a:=(s.heap.objs.size,[m1 a])) (λq=>au (wpAny_notOrdered_dict jn.typeIs (aU q))) (bD (m:=typeOf (.ref a)) (λq=>nc (T:= "list") ⟨_,Ew,co⟩ q) (jx rfl ?_));refine au (aaU (s:={s with heap:=s.heap.push {cls:= .type "dict",data:= .dict #[]}}) Ew co dd aa8 hr.handled λh2 Et m3=>jx rfl ?_);refine au (jt ?_)
 have iV:h2.IsList a ys.toArray:=⟨o,m3 _ _ Ew,co,nn,dd⟩
 refine au (Bs (s:={s with heap:=h2,toks:=Et}) iV ?_)
 have sf:h2.get? s.heap.objs.size=some (dictOf [] 0):=m3 _ _ (cV _ rfl)
 have xd:∀b ob,h2.get? b=some ob->b≠h2.objs.size:=λb ob e=>dz (cR e)
 have keep:∀b ob,s.heap.get? b=some ob->h2.get? b=some ob:=λb ob e=>m3 _ _ (fq _ e)
 have W:=Ip (prog:=X.prog) (w:=X.w) (A:=A.in1.in1) hr.handled h2.objs.size a (xd _ _ (keep _ _ eo)) ys.toArray
 rw [show (λ(i:Nat) (v:Value)=>ys.toArray[i]? =some v)=λi v=>ys[i]? =some v from funext λi=>funext λv=>by rw [pG]] at W
 refine aU ⟨wx Ac _,aa1 W (xd _ _ sf) (λq=>(bq.mp q).elim (xd _ _ sf) λq=>(dz (cR eo)) (dL.mp q).symm) h3 (ag (bS ((aC _).symm.trans (congrArg rO h1))) (ag bJ (nb rfl))) (aa h1 d4) ys.length 0 _ 0 (m4 _) ⟨⟨_,cV _ rfl,rfl,rfl⟩,iV.push _⟩ (fq _ sf) (λj p hp=> ?_) λh' rH n' fF d3=>⟨rfl, ?_⟩⟩
 ·obtain ⟨T,e1,e2,ob,eT,r⟩:=h4 j p hp;exact ⟨T,e1,xd _ _ (keep _ _ eT),dz (cR eT),ob,fq _ (keep _ _ eT),r⟩
 have kk:∀b ob,s.heap.get? b=some ob->h'.get? b=some ob:=λb ob e=>d3 b ob (xd _ _ (keep _ _ e)) (dz (cR e)) (fq _ (keep _ _ e))
 refine .ext G kk rfl rfl (.dict (es:=ps.map ent) (n:=n') (iK G) ?_ fF d4 ?_) hK
 ·exact ok.HH.elim λJ e'=>beq_eq_false_iff_ne.mpr (fH (cR (G.keep _ _ e')))
 ·exact ao h1 (aa6 (aa9.mono (gI kk)))
end
end
section
variable {bs:List (Array UInt8)}
section
open PySem.Builtin (Bytes.joinM)
theorem Ex:Slot "bytes" "join" "bytes.join" :=
 .of (owner:= "bytes") (n:= "join") (by refine aH (jv ..) jw ?_;kernel_rfl) (by decide +kernel) (by decide +kernel) (by decide +kernel)
  (by first | exact .inl (by decide +kernel) | exact .inr (by decide +kernel)) (by refine aa (rC ..) ?_;kernel_rfl)
theorem aa':typeOf (.builtin "bytes.join")=pure (.type "method_descriptor"):=by show builtinType _=_;refine aa builtinType_eq_fast ?_;kernel_rfl
theorem L6:entryFor table "bytes.join" =some fY.«bytes.join» :=zv (by kernel_rfl)
theorem L7(a b:Value):argsOk "bytes.join" ⟨[a,b],[]⟩:=by
 unfold argsOk;rw [signature?_of (id:= "bytes.join") (n:= ['n','i','o','j']) (o:= ['s','e','t','y','b']) (by kernel_rfl) FB.owner_bytes];kernel_rfl
theorem aba(id:String)(b:Array UInt8)(t:Tok):L8 id (.bytes b t) 0=pure (some (b,none)):=by
 unfold L8 ah9;refine aH (ah' aia) aib (?_:Sem.attempt (zC id (.bytes b t) (0==abb)>>=λr=>pure (r.map (λz=>(z,none))))>>=_=_);exact aH (show (0==abb)=false by decide) Xz rfl
section
variable{prog:dN}{w:cO}{A:cA}{E:Value->al->Prop}{s:al}
theorem abc{Q:Unit->al->Prop}{keep:List Value}(xs:List Value)(h:Q () s):wpAny (model prog w) A (abd (xs.map λx=>(x,none)) keep) Q E s:=by
 induction xs with
 | nil=>exact aU h
 | cons x xs ih =>
  refine (?_:wpAny (model prog w) A (letGo (x::(none:Option Value).toList) (keep++_)>>=λ_=>abd (xs.map λx=>(x,none)) keep) Q E s);exact au (wD ih)
theorem abe(bs:List (Array UInt8)):∀z:Nat,bs.foldl (λx1 x2=>x1+x2.size) z=z+(bs.map (λz=>z.size)).sum:=by
 induction bs with
 | nil=>simp
 | cons b bs ih=>intro z;refine aa mq ?_;rewrite [ih];simp;exact j9 ..
theorem L9(bs:List (Array UInt8)):(um #[] bs).toList=bs.flatMap (λz=>z.toList):=by
 unfold um
 suffices ∀(i:Nat) (z:Array UInt8),((bs.zipIdx i).foldl (λout (x:Array UInt8×Nat)=>(if x.2>0 then out++(#[]:Array UInt8) else out)++x.1) z).toList=z.toList++bs.flatMap (λz=>z.toList) by simpa using this 0 #[]
 induction bs with
 | nil=>intro i z;simp
 | cons b bs ih =>
  intro i z;refine aa DL (aa mq (aa (ih ..) ?_))
  split<;>simp
theorem abf(bs:List (Array UInt8)):(um #[] bs).size=(bs.map (λz=>z.size)).sum:=by
 refine ao wO (aa (L9 ..) (aa List.length_flatMap ?_));simp
theorem abg{f:Value->Sem rE}{g:Array Value->Sem rE}{Q:rE->al->Prop}(h:ys.length≠1)(k:wpAny (model prog w) A (g ys.toArray) Q E s):wpAny (model prog w) A (aic (λJ=>Sem rE) ys.toArray f g) Q E s:=by
 rcases ys with _ | ⟨x,_ | ⟨y,ys⟩⟩
 ·exact k
 ·exact absurd rfl h
 ·exact k
theorem Ey{M:Model}{c:Bool}{a b:Sem α}{Q:α->al->Prop}(hc:c=false)(h:wpAny M A b Q E s):wpAny M A (if c=true then a else b) Q E s:=by subst hc;exact h
theorem range_list{M:Model}{f:Nat->β->Sem (ForInStep β)}(st:Nat->β){n:Nat}{z:β}(turn:∀i,i<n->∀{Q:ForInStep β->al->Prop},Q (.yield (st (i+1))) s->wpAny M A (f i (st i)) Q E s){Q:β->al->Prop}(hz:st n=z)(q:Q z s):∀k i,i+k=n->wpAny M A (forIn (gZ i k) (st i) f) Q E s:=by
 intro k
 induction k with
 | zero=>intro i e;subst hz;subst e;exact aU q
 | succ k ih=>intro i e;refine aa DV (aa (pd ..) ?_);exact au (turn i (ao e (yK (rI _))) (ih (i+1) ((qG ..).trans e)))
theorem abh{M:Model}{f:Nat->β->Sem (ForInStep β)}(st:Nat->β){n:Nat}{z:β}(turn:∀i,i<n->∀{Q:ForInStep β->al->Prop},Q (.yield (st (i+1))) s->wpAny M A (f i (st i)) Q E s){Q:β->al->Prop}(hz:st n=z)(q:Q z s):wpAny M A (forIn [0:n] (st 0) f) Q E s:=by
 refine aa (aid ..) (aa (show aie [0:n]=n from Nat.div_one _) ?_);exact range_list st turn hz q n 0 (m4 _)
theorem abi{id:String}{x:Value}{b:Array UInt8}{held:List Value}{f:Option (Array UInt8×Option Value)->Sem β}{Q:β->al->Prop}(hx:∃t,x= .bytes b t)(h:wpAny (model prog w) A (f (some (b,none))) Q E s):wpAny (model prog w) A (holding held (L8 id x 0)>>=f) Q E s:=by
 obtain ⟨t,rfl⟩:=hx;exact au (kt (dU (aba _ _ _) h))
theorem Ma{i:Nat}{d:α}(h:i<l.length):l.take (i+1)=l.take i++ [l.getD i d]:=by
 rw [ow,t6,bE h];rfl
theorem abj(hy:∀(i:Nat) b,bs[i]? =some b->∃t,ys[i]? =some (.bytes b t))(aR:ys.length=bs.length){i:Nat}:((ys.take i).map λx=>(x,(none:Option Value))).any (λx=>x.1.onHeap)=false:=by
 refine Dw.mpr λx hx=> ?_;obtain ⟨v,hv,rfl⟩:=bF.mp hx;obtain ⟨j,hj⟩:=p7.mp (pg hv);obtain ⟨t,e⟩:=hy j _ (bE (ao aR ((dr.mp hj).1)));refine (?_:¬ v.onHeap=true);exact aa (aM (hj.symm.trans e)) ka
theorem abk(hy:∀(i:Nat) b,bs[i]? =some b->∃t,ys[i]? =some (.bytes b t)){i:Nat}(hi:i<bs.length):∃t,ys.toArray.getD i .none= .bytes (bs.getD i #[]) t:=by
 obtain ⟨t,e⟩:=hy i _ (bE hi);refine ⟨t, ?_⟩;rw [abl,pG,e,t6,bE hi]
 rfl
theorem abm(bJ:(bs.map (λz=>z.size)).sum≤1000000):Dy (bs.toArray.foldl (λx1 (x2:Array UInt8)=>x1+x2.size) ((#[]:Array UInt8).size*k))=false:=by
 refine ao (Array.foldl_toList ..) (aa (abe ..) ?_);exact aif (by simpa using ag bJ (nb rfl))
theorem abn{i:Nat}{d:α}(h:i<l.length):l.take (i+1)=l.take i++ [l.toArray.getD i d]:=by
 rw [abl,pG,<-t6];exact Ma h
theorem abo(aR:ys.length=bs.length){i:Nat}(hi:i<ys.length){C:Array (Array UInt8)->List (Value×Option Value)->Prop}(q:C (bs.take (i+1)).toArray ((ys.take (i+1)).map λx=>(x,none))):C ((bs.take i).toArray.push (bs.getD i #[])) ((ys.take i).map (λx=>(x,none))++ [(ys.toArray.getD i .none,none)]):=by
 rw [Ma (d:= #[]) (ao aR hi),abn (d:=Value.none) hi,gR,<-K4] at q
 exact q
theorem abp(aR:ys.length=bs.length):((bs.take ys.length).toArray,(ys.take ys.length).map λx=>(x,(none:Option Value)))=(bs.toArray,ys.map λx=>(x,none)):=by
 exact aa kD (aa aR (aa kD rfl))
theorem join_one{l:Addr}{x:Value}{t:Tok}(hl:s.heap.IsList l #[x])(hx:s.TypeIs x "bytes")
  (h:Q x s):wpAny (model prog w) A (call (.builtin "bytes.join") [.bytes #[] t, .ref l]) Q E s:=by
 obtain ⟨o,ho,hc,n,hd⟩:=id hl;refine n0 Ex (lj _ _ _) L6 ?_ (L7 _ _);refine au (dU (a:=(rL #[] t,m1 l)) rfl ?_);refine bD (λq=>au (nc hl.typeIs (aU q))) (bD (λq=>lp ho hd q) ?_);exact bD (λq=>nc hx q) (au (jt (aU ⟨_,rfl,h⟩)))
theorem abq{l:Addr}{t:Tok}(hl:s.heap.IsList l ys.toArray)(hy:∀(i:Nat) b,bs[i]? =some b->∃t,ys[i]? =some (.bytes b t))(aR:ys.length=bs.length)(bJ:(bs.map (λz=>z.size)).sum≤1000000)(q1:ys.length≠1)
  (h:∀t' tk,Q (.bytes (um #[] bs) t') {s with toks:=tk}):wpAny (model prog w) A (call (.builtin "bytes.join") [.bytes #[] t, .ref l]) Q E s:=by
 obtain ⟨o,ho,hc,n,hd⟩:=id hl;refine n0 Ex (lj _ _ _) L6 ?_ (L7 _ _);refine au (dU (a:=(rL #[] t,m1 l)) rfl ?_);refine bD (λq=>au (nc hl.typeIs (aU q))) (bD (λq=>lp ho hd q) ?_);refine abg q1 (bD (λq=>abh (λi=>((bs.take i).toArray,(ys.take i).map λx=>(x,(none:Option Value)))) (λi hi {Q} q=> ?_) (abp aR) q) ?_)
 ·refine bD (λq=>lp ho hd q) (Ey (abj hy aR) ?_);refine abi (abk hy (ao aR hi)) (bD (λq=>lp ho hd q) ?_);exact Ey (bne_self_eq_false _) (aU (abo (C:=λa b=>Q (.yield (a,b)) s) aR hi q))
 ·refine au (dU (a:=(#[]:Array UInt8)) rfl ?_);refine Ey (abm bJ) (bD (λq=>Kw q ?_) ?_)
  ·exact aa (abf ..) (fc bJ)
  exact bD (λq=>kt (wpAny_point q)) (au (abc _ (aU ⟨_,rfl,h _ _⟩)))
theorem abr(hy:∀(i:Nat) b,bs[i]? =some b->∃t,ys[i]? =some (.bytes b t))(aR:ys.length=bs.length)(q1:ys.length=1):∃t,ys= [.bytes (um #[] bs) t]:=by
 obtain ⟨x,rfl⟩:=abs.mp q1;obtain ⟨b,rfl⟩:=abs.mp (aR.symm.trans q1);obtain ⟨t',e⟩:=hy 0 b rfl;exact ⟨t',congrArg (λx=> [x]) ((aM e).trans (congrArg (λz=>rL z t') (abt (xs:=b)).symm))⟩
theorem abu{l:Addr}{t:Tok}(hl:s.heap.IsList l ys.toArray)(hy:∀(i:Nat) b,bs[i]? =some b->∃t,ys[i]? =some (.bytes b t))(aR:ys.length=bs.length)(bJ:(bs.map (λz=>z.size)).sum≤1000000)
  (h:∀t' tk,Q (.bytes (um #[] bs) t') {s with toks:=tk}):wpAny (model prog w) A (call (.builtin "bytes.join") [.bytes #[] t, .ref l]) Q E s:=by
 by_cases q1:ys.length=1
 ·obtain ⟨t',rfl⟩:=abr hy aR q1;exact join_one hl (lj _ _ _) (h t' s.toks)
 ·exact abq hl hy aR bJ q1 h
end
section
variable{X:Cx}{n:Nat}
theorem abv(bs:List (List UInt8)):um #[] (bs.map Ea)=bs.flatten.toArray:=by
 apply Array.ext'
 refine aa (L9 ..) (aa (List.flatMap_map ..) ?_);refine (?_:bs.flatMap (λb=>b)=bs.flatten)
 induction bs with
 | nil=>rfl
 | cons b bs ih=>refine aa List.flatMap_cons (aa ih ?_);rfl
theorem abw:vm X σ (.bytes b) "join" (.builtin "bytes.join"):=λκ s y G hv A pl Q E q=>by
 obtain ⟨t,rfl⟩:=hv.mI;exact bc (getMethod_builtin (lj _ _ _) FB.plainAttrs_bytes Ex aa' (λa e=>nomatch e) (q s rfl rfl rfl))
theorem abx{bs:List (List UInt8)}{K:ab->aq->Prop}(bJ:bs.flatten.length≤1000000)(hK:K (.bytes bs.flatten) σ):az X n (.raw (.builtin "bytes.join")) [.bytes [], .list (bs.map .bytes)] [] K σ:=by
 refine zL (λa e=>by cases e) λA κ s y z hr G h h2=> ?_;obtain ⟨t,rfl⟩:=h.mI;obtain ⟨l,cs,rfl,u,hl,aL⟩:=h2.inv
 have aR:=aL.length
 rw [aC] at aR
 refine abu (bs:=bs.map Ea) hl (λi b hb=> ?_) (aa (aC ..) aR.symm) (by simpa [List.length_flatten,Function.comp_def] using bJ) λt' tk=> ?_
 ·rw [cW] at hb
  obtain ⟨b',e1,rfl⟩:=lQ.mp hb;obtain ⟨y,e,r⟩:=aL.get (i:=i) (v:= .bytes b') (by rw [cW,e1];rfl);obtain ⟨t,rfl⟩:=r.mI;exact ⟨t,e⟩
 ·exact aa (abv ..) (.same G rfl rfl rfl (.bytes _ _) hK)
end
end
end
section
variable {rk:List Nat}
theorem Ae{g:α->ab}(hk:k≤1000)(hl:l.length≤1000)(q:∀ws,ws=l.take k->K (.list (ws.map g)) st):kj (.list (l.map g)) none (some (.int (k:Int))) st K :=
 have e:((l.map g).take k).drop 0=(l.take k).map g:=xe.symm
 .list (l.map g) 0 k rfl rfl (wY (k6 hk)) (aa (aC ..) (k6 hl)) (aa e (.fz (by refine aa (aC ..) (aa iX ?_);exact ag (jW ..) (k6 hl)) (q _ rfl)))
theorem Af{f:α->β}{g:β->ab}(h:l.length≤1000)(k:∀ys,ys=l.map f->K (.list (ys.map g)) st):fR (l.map λx=>g (f x)) st K:=nq h (k _ rfl)
theorem Mb(f:α->β)(l:List α):∀z:List β,l.foldl (λacc x=>acc++ [f x]) z=z++l.map f:=by
 induction l with
 | nil=>exact λz=>(iU z).symm
 | cons x l ih=>exact λz=>(ih _).trans (lb ..)
noncomputable def oG(m:Nat)(ar cx:List Nat):bj:=cx.map λw=>ar.map λp=>gj 2 (w*(m - 1 - p))
noncomputable def qo(part:List UInt8)(fs:List (Nat×List UInt8)):List UInt8:=fs.foldl (λpart f=>d6 part (mw f.2 f.1)) part
noncomputable def sh(aV:List (List UInt8))(ar:List Nat)(j5:List (List UInt8))(inv:bj):List (List UInt8) :=
 (aA ar inv).map λx=>(qo [] (aA x.2 j5)).take (aV.getD x.1 []).length
theorem aig(fs:List (Nat×List UInt8)):∀part:List UInt8,part.length≤1000->(∀f∈fs,f.2.length≤1000)->(qo part fs).length≤1000:=by
 induction fs with
 | nil=>exact λJ h J=>h
 | cons f fs ih=>exact λpart h hf=>ih _ (aa (lr ..) (aa (rY ..) (ue.mpr ⟨h,hf f (.head _)⟩))) λg hg=>hf g (.tail _ hg)
theorem aby{g:Nat->ab}:w∈rk->qT (w:Int) (rk.map λ(x:Nat)=>(x:Int)) (rk.map g)=some (g w):=by
 induction rk with
 | nil=>exact λh=>absurd h dJ
 | cons y rk ih =>
  intro h;refine (?_:(if (w:Int)=(y:Int) then some (g y) else qT (w:Int) (rk.map λ(x:Nat)=>(x:Int)) (rk.map g))=_)
  by_cases q:w=y
  ·subst q;exact aa (if_pos rfl) rfl
  ·exact aa (if_neg (λe=>q (Int.ofNat.inj e))) (ih ((bq.mp h).resolve_left q))
theorem abz(h:rk.Pairwise (λz b9=>z < b9)):jA (rk.map λ(x:Nat)=>(x:Int))=rk.map λ(x:Nat)=>(x:Int) :=
 (Ld (List.Perm.refl _) (we.mpr (h.imp λh=>dT.mpr (bO h)))).symm
theorem Ag(l:List Nat):(l.map λ(x:Nat)=>(x:Int)).map ab.int=l.map .n:=by refine aa dj ?_;rfl
noncomputable abbrev xf(rk:List Nat)(row:Nat->List UInt8):ab:= .dict (rk.map λ(x:Nat)=>(x:Int)) (rk.map λw=> .bytes (row w))
theorem abA{X:Cx}{n:Nat}{row:Nat->List UInt8}{K:ab->aq->Prop}(si:rk.Pairwise (λz b9=>z < b9))(hl:rk.length≤6)(h:K (aJ rk) σ):az X n (.raw (.builtin "sorted")) [xf rk row] [] K σ :=
 Zt (by refine aa (aC ..) ?_;exact eB hl (nb rfl)) (by refine aa (abz si) (aa (Ag ..) ?_);exact h)
theorem aih{a:List α}{b:List β}(h:b.length≤k):(aA a b).length≤k:=aa rT (ag (jW ..) h)
theorem abB{ar cx:List Nat}(h:cx.length=k)(h':ar.length=k):Sq k (oG m ar cx):=⟨by rewrite [oG];refine aa (aC ..) ?_;exact h,λr hr=>by
 obtain ⟨w,hw,rfl⟩:=bF.mp hr;refine ⟨(aC ..).trans h',λx hx=> ?_⟩;obtain ⟨p,hp,rfl⟩:=bF.mp hx;exact Ef (nb rfl)⟩
theorem abC{ar cx:List Nat}{row:Nat->List UInt8}(hp:Short aV)(iq:∀w,(row w).length≤1000):Short (cx.map λw=>kH aV ar w (row w)):=λr hr=>by
 obtain ⟨w,hw,rfl⟩:=bF.mp hr;exact Z9 _ _ _ _ _ (iq w) λq hq=>by
  obtain ⟨k,ek⟩:=p7.mp hq;exact hp _ (cr (zipIdx_get ek).2)
noncomputable def Mc(aV j5:List (List UInt8))(x:Nat×List Nat):List UInt8:=(qo [] (aA x.2 j5)).take (aV.getD x.1 []).length
theorem Md(h:p<aV.length):(aV.map ab.bytes)[p]? =some (.bytes (aV.getD p [])):=by rw [cW,bE h,cZ h];rfl
theorem Short.at(hp:Short aV)(h:p<aV.length):(aV.getD p []).length≤1000:=aa (cZ h) (hp _ (mu _))
section
variable{X:Cx}(C:Ctx X){n:Nat}{K:ab->aq->Prop}{σ:aq}
include C
theorem Me(hl:aV.flatten.length≤1000000)(hn:m≤1000)(h:K (.bytes (aV.flatten.take m)) σ):az X (n+1) (.ref 135) [jB aV, .n m] [] K σ :=
 C.call 8 rfl rfl ⟨_,abw,abx hl (LA hn hl h)⟩
theorem abD{ar:List Nat}{row:Nat->List UInt8}{inv:bj}{pv:ab}(hv:lu σ pv (aV.map .bytes))(hp:Short aV)(hl:aV.length≤6)(Mf:∀p∈ar,p<aV.length)(qp:ar.length≤6)(gD:rk.length≤6)
  (si:rk.Pairwise (λz b9=>z < b9)) (Mg:∀w∈rk,w<3) (iq:∀w,(row w).length≤1000) (hn:ar.length≤rk.length) (xg:qm (oG aV.length ar (rk.take ar.length))=some inv) (md:Sq ar.length inv)
  (h:K (jB (sh aV ar ((rk.take ar.length).map λw=>kH aV ar w (row w)) inv)) σ):az X (n+6) (.ref 226) [pv,aJ ar,xf rk row] [] K σ:=by
 have j6:ar.length≤1000:=ag qp (nb rfl)
 have abE:rk.length≤1000:=ag gD (nb rfl)
 have fi:aV.length≤1000:=ag hl (nb rfl)
 refine az.out (C.call 23 rfl rfl (abA si gD (cu (k:=ar.length) (congrArg some (aC _)) (k6 j6) (Ae j6 abE λcx e=> ?_))))
 have gp:cx.length=ar.length:=by refine aa e (aa iX ?_);exact gO hn
 have hm:∀w∈cx,w∈rk:=λw hw=>pg (e▸hw)
 rw [<-e] at xg h
 have dB:cx.length≤1000:=ao gp.symm j6
 refine cu (k:=cx.length) (congrArg some (aC _)) (k6 dB) (cu (k:=ar.length) (congrArg some (aC _)) (k6 j6) (fg (λq=>absurd (gp▸q) (iL _)) λJ =>
  fe [false,false,false,false,false,false,false,false,false,false,false,false,true,true] cx .n (λw=>aJ (ar.map λp=>gj 2 (w*(aV.length - 1 - p)))) (k5 dB) (λw hw K' k =>
   fe [false,false,false,false,false,false,false,false,false,false,false,false,false,false,true,true] ar .n (λp=> .n (gj 2 (w*(aV.length - 1 - p)))) (k5 j6) (λp xh K' k=>cu hv.len (aa (aC ..) (k6 fi)) (aa (aC ..) (Lr C (Mg w (hm w hw)) (Mf p xh) hl (k _ _ rfl rfl))))
    (nq j6 (k _ _ rfl rfl))) (nq dB
  (fe [false,false,false,false,false,false,false,false,false,false,false,false,true,true] cx .n (λw=> .bytes (kH aV ar w (row w))) (k5 dB) (λw hw K' k=>bB.i (aby (hm w hw)) (aah C hp hl (Mg w (hm w hw)) (iq w) hv (k _ _ rfl rfl)))
   (Af dB λj5 es=> .own lk λa ha=>aaM C (m:=ar.length) xg (abB gp rfl) (ag qp (nb rfl)) ?_)))))
 have uo:Short j5:=es▸abC hp iq
 have uq:j5.length≤1000:=by refine aa es (aa (aC ..) ?_);exact dB
 rw [<-es] at h
 replace ha:σ a=none:=ha
 have JB:=λo=>hv.mono (σ':=σ.set a o) (my ha)
 let S:List (List UInt8)->St:=λacc=>{m:= [some pv,some (aJ ar),some (xf rk row),some (aJ cx),none,some (.list ((oG aV.length ar cx).map aJ)),some (jB j5),some (.ref a),none,none,none,none],fz:= [],σ:=σ.set a (.list (acc.map .bytes))}
 refine jY [false,false,false,false,true,false,false,false,true,true,true,true] (aA ar inv) (λx=> .tuple [.n x.1,aJ x.2]) (λacc x=>acc++ [Mc aV j5 x]) S (λi acc=>acc.length≤i) [] (cb _) (λi x acc J h=>aa de (fO h)) (λJ=>dW) (λi x acc K' ei i0 k J=> ?_)
  (λJ=>w0 (my ha) bU ha (aa (Mb ..) h)) (zip_map .n aJ ar inv)
 have oH:=iz (cr ei)
 have ut:=Mf _ oH.1
 have abF:=md.2 _ oH.2
 let S':List UInt8->St:=λpart=>{m:= [some pv,some (aJ ar),some (xf rk row),some (aJ cx),some (.n x.1),some (.list ((oG aV.length ar cx).map aJ)),some (jB j5),some (.ref a),some (aJ x.2),some (.bytes part),none,none],fz:= [],σ:=σ.set a (.list (acc.map .bytes))}
 refine jY [false,false,false,false,false,false,false,false,false,false,true,true] (aA x.2 j5) (λy=> .tuple [.n y.1, .bytes y.2]) (λpart f=>d6 part (mw f.2 f.1)) S' (λJ part=>part.length≤1000) [] (da _)
  (λj y part e hp=>by refine aa (lr ..) (aa (rY ..) ?_);exact ue.mpr ⟨hp,uo _ (iz (cr e)).2⟩) (λJ=>dW) (λj y part K' ej Mh k J=> ?_) (λhd=> ?_) (zip_map .n .bytes x.2 j5)
 ·have q5:=iz (cr ej)
  have qq:=uo _ q5.2
  exact LB C qq (abF.2 _ q5.1) (zS C Mh (aa (rY ..) qq) (k _ _ rfl rfl))
 ·exact ⟨_,oy bU,(JB _).sub (Md ut) (ag (bO ut) fi) (cu rfl (k6 (hp.at ut)) (LA (hp.at ut) (k6 hd) (app (f:= .bytes) (x:=Mc aV j5 x) rfl
   (ag i0 (ag (bO (dr.mp ei).1) (nr (k6 j6)))) (k _ _ rfl rfl))))⟩
end
end
theorem abG{b:Addr}{o':d8}(h:a≠b):(σ.set a o).set b o'=(σ.set b o').set a o:=by
 funext c;unfold aq.set
 by_cases h1:c=a
 ·subst h1;simp [h]
 ·simp [h1]
noncomputable def fj(bh:Nat)(ar:List Nat):List Nat:=(aK bh).filterMap λw=>if w∈ar then none else some w
noncomputable def cL(bh:Nat)(sl:List Nat):List Nat:=sl.filterMap λp=>if p<bh then none else some (p - bh)
noncomputable def Mi(held:List (List UInt8))(bh:Nat)(ar sl:List Nat):List (List UInt8):=((fj bh ar).take (cL bh sl).length).map λw=>kH (held.drop bh) (cL bh sl) w (held.getD w [])
noncomputable def putAll(ps:List (List UInt8))(l:List (Nat×List UInt8)):List (List UInt8):=l.foldl (λps x=>ps.set x.1 x.2) ps
noncomputable def Ah(held:List (List UInt8))(bh:Nat)(ar sl:List Nat)(inv:bj):List (List UInt8) :=
 putAll (held.drop bh) (aA (cL bh sl) (sh (held.drop bh) (cL bh sl) (Mi held bh ar sl) inv))
theorem abH:∀(l:List (Nat×List UInt8)) (ps:List (List UInt8)),(putAll ps l).length=ps.length:=by
 intro l
 induction l with
 | nil=>exact λJ=>rfl
 | cons x l ih=>exact λps=>(ih _).trans kl
theorem Mj(g:Nat->ab):∀rk:List Nat,rk.map (λw=>ab.tuple [.n w,g w])=sg (rk.map λ(x:Nat)=>(x:Int)) (rk.map g):=by
 intro rk
 induction rk with
 | nil=>rfl
 | cons x rk ih=>exact congrArg (ug _) ih
theorem Mk(bh:Nat)(ar:List Nat):(fj bh ar).Pairwise (λz b9=>z < b9)/\(∀w∈fj bh ar,w<bh)/\(fj bh ar).length≤bh:=by
 refine ⟨?_,λw hw=> ?_, ?_⟩
 ·refine abI _ (λa a' h b hb b' uu=> ?_) List.pairwise_lt_range
  split at hb
  ·cases hb
  ·cases hb;split at uu
   ·cases uu
   ·cases uu;exact h
 ·obtain ⟨x,hx,e⟩:=oE.mp hw
  split at e
  ·cases e
  ·cases e;exact fU.mp hx
 ·exact ag (tN _ _) (aa fh (cb _))
theorem Ai{g:α->ab}(hk:k≤1000)(hl:l.length≤1000)(q:K (.list ((l.drop k).map g)) st):kj (.list (l.map g)) (some (.int (k:Int))) none st K :=
 have e:((l.map g).take (l.map g).length).drop k=(l.drop k).map g:=aa kD (aa abJ rfl)
 .list (l.map g) k (l.map g).length rfl (wX (k6 hk)) rfl (aa (aC ..) (k6 hl)) (aa e (.fz (by refine aa (aC ..) (aa f0 ?_);exact ag (gE ..) (k6 hl)) q))
theorem abK{ws:List ab}(e:vs=ws)(h:ws.length≤1000)(k:∀a,st.σ a=none->K (.ref a) (st.put (st.σ.set a (.list ws)))):fR vs st K:=e▸ .own (k6 h) k
theorem xi{X:Cx}{n:Nat}{l sl:List Nat}{K:ab->aq->Prop}(hv:eV σ v=some (l.map .n))(e:jA (l.map λ(x:Nat)=>(x:Int))=sl.map λ(x:Nat)=>(x:Int))(hl:l.length≤60)(h:K (aJ sl) σ):az X n (.raw (.builtin "sorted")) [v] [] K σ :=
 Zs (ns:=l.map λ(x:Nat)=>(x:Int)) (aa (Ag ..) hv) (by refine aa (aC ..) ?_;exact eB hl (nb rfl)) (by refine aa e (aa (Ag ..) ?_);exact h)
theorem abL{l sl:List Nat}(e:jA (l.map λ(x:Nat)=>(x:Int))=sl.map λ(x:Nat)=>(x:Int)):sl.length=l.length:=by
 have:=congrArg rO e
 rw [(rS _).length_eq,aC,aC] at this
 exact this.symm
theorem abM(bh:Nat)(ar:List Nat)(row:Nat->List UInt8):(aK bh).filterMap (λw=>if w∈ar then none else some (ab.tuple [.n w, .bytes (row w)]))=sg ((fj bh ar).map λ(x:Nat)=>(x:Int)) ((fj bh ar).map λw=> .bytes (row w)):=by
 exact ao (Mj ..) (ui (aK bh) (λz=>z ∈ar) id λw=>ab.tuple [.n w, .bytes (row w)])
theorem sub_if{q:Nat}(h:q≤p):some (ab.int ((p:Int) - (q:Int)))=if p<q then none else some (.n (p - q)):=by
 exact aa (if_neg (dA.mpr h)) (congrArg (some ∘ ab.int) (nm h).symm)
theorem abN{held:List (List UInt8)}(hh:Short held)(w:Nat):(held.getD w []).length≤1000:=by
 by_cases q:w<held.length
 ·exact hh.at q
 ·rw [i9,ir (fA q)];exact da _
section
variable{X:Cx}(C:Ctx X){n:Nat}{K:ab->aq->Prop}{σ:aq}
include C
theorem abO{held:List (List UInt8)}{ar sl:List Nat}{bh:Nat}{inv:bj}(hh:Short held)(xj:held.length≤10)(fi:bh≤3)(uw:bh≤held.length)(hm:held.length - bh≤6)(qp:ar.length≤10)(uq:jA (ar.map λ(x:Nat)=>(x:Int))=sl.map λ(x:Nat)=>(x:Int))
  (Ez:∀p∈cL bh sl,p<held.length - bh) (Ml:(cL bh sl).length≤6) (hn:(cL bh sl).length≤(fj bh ar).length)
  (xg:qm (oG (held.length - bh) (cL bh sl) ((fj bh ar).take (cL bh sl).length))=some inv) (md:Sq (cL bh sl).length inv)
  (h:K (jB (Ah held bh ar sl inv)) σ):az X (n+7) (.ref 231) [jB held,lA ar, .n bh] [] K σ:=by
 obtain ⟨Aj,m3,xc⟩:=Mk bh ar
 have ja:(held.drop bh).length=held.length - bh:=f0 ..
 rw [<-ja] at hm Ez xg
 have dB:bh≤1000:=ag fi (nb rfl)
 have xb:(held.drop bh).length≤1000:=ag hm (nb rfl)
 have si:(fj bh ar).length≤6:=ag xc (ag fi (nb rfl))
 refine az.out (C.call 24 rfl rfl (Ai dB (ag xj (nb rfl)) (fe [false,false,false,false,false,false,false,false,true,true] (held.drop bh) .bytes .bytes (k5 xb) (λp hp K' k=>rQ (k _ _ rfl rfl))
  (Eh (aa (aC ..) (k6 xb)) λa ha=>⟨rg dB,qe [false,false,false,false,false,false,false,false,true,true] (aK bh) .n (λw=>if w∈ar then none else some (.tuple [.n w, .bytes (held.getD w [])])) (jC (k5 dB))
   (λw hw K' k=>np (l:=ar) rfl (λq=>k _ _ (if_pos q).symm rfl) λq=>oB (Md (et (fU.mp hw) uw)) (ag (bO (fU.mp hw)) dB) (rQ (k _ _ (if_neg q).symm rfl)))
   (abK (abM bh ar λw=>held.getD w []) (by refine ao (Mj ..) (aa (aC ..) ?_);exact ag si (nb rfl)) λc hc=> ?_) (i7 _)⟩))))
 replace ha:σ a=none:=ha;obtain ⟨Mm,hc⟩:=mz (σ:=σ) (a:=a) (o:= .list ((held.drop bh).map .bytes)) hc;refine aa7 C.ok bU (aa (aC ..) (aa (aC ..) rfl)) (we.mpr (Aj.imp λh e=>dz h (kE.mp e))) (by refine aa (aC ..) ?_;exact ag si (nb rfl)) (xi (l:=ar) rfl uq (ag qp (nb rfl)) ?_)
 have abP:sl.length≤10:=abL uq▸qp
 have abQ:(cL bh sl).length≤1000:=ag Ml (nb rfl)
 generalize aii:d8.list (sg _ _)=cv
 have Mn:(σ.set a (.list ((held.drop bh).map .bytes))).set c cv=(σ.set c cv).set a (.list ((held.drop bh).map .bytes)):=abG Mm.symm
 have abR:(σ.set c cv) a=none:=(bA Mm.symm).trans ha
 let S:List (List UInt8)->St:=λps=>{m:= [some (jB held),some (lA ar),some (.n bh),none,some (.ref a),some (xf (fj bh ar) λw=>held.getD w []),none,some (aJ (cL bh sl))],fz:= [],σ:=(σ.set c cv).set a (.list (ps.map .bytes))}
 refine qe [false,false,false,false,false,false,false,false,true,true] sl .n (λp=>if p<bh then none else some (.n (p - bh))) (ag abP (nb rfl)) (λp hp K' k=>qf (a:=bh) (b:=p) (λq=>k _ _ (sub_if q) rfl) λq=>k _ _ (if_pos (EA q)).symm rfl)
  (j0 (ui sl (λz=>z <bh) (λp=>p - bh) ab.n) (aa (aC ..) abQ) (abD C (rk:=fj bh ar) (row:=λw=>held.getD w []) (aV:=held.drop bh) (.inr ⟨a,rfl,by
   refine (?_:((σ.set a _).set c cv) a=_);refine aa Mn ?_;exact bU⟩) (λp hp=>hh p (nN hp)) hm Ez Ml si Aj (λw hw=>et (m3 w hw) fi) (abN hh) hn xg md
   (jY [false,false,false,true,false,false,true,false] (aA (cL bh sl) (sh (held.drop bh) (cL bh sl) (Mi held bh ar sl) inv)) (λx=> .tuple [.n x.1, .bytes x.2]) (λ(ps:List (List UInt8)) (x:Nat×List UInt8)=>ps.set x.1 x.2) S (λJ ps=>ps.length=(held.drop bh).length) (held.drop bh) rfl (λJ J J J h=>(kl ..).trans h) (λJ=>dW)
    (λi x ps K' ei ut k J=> ?_) (λJ=>w0 (λb o e=>my abR b o (my hc b o e)) bU ha h) (zip_map .n .bytes _ _) (congrArg (St.mk _ _) Mn))))
 have oH:=Ez _ (iz (cr ei)).1
 exact zZ bU (by refine aa (aC ..) (aa ut ?_);exact oH) (ag (bO oH) xb) (k _ _ rfl (congrArg (St.mk _ _) (rZ.trans (congrArg (λl=>(σ.set c cv).set a (.list l)) aaD.symm))))
end
theorem abS{q:Nat}(h:p<w):((q:Nat):Int)+w - p - 1=((q+w - p - 1:Nat):Int):=by
 have h':=et h (lm w q)
 refine aa (nm (ri h')) (aa (nm (bO h')) ?_);rfl
noncomputable def abT:List (Str×ab):= [("sector", .int 4),("slab", .int 8),("record", .int 32),("fan", .int 4),("dnodes", .int 4),("ring", .int 1),("defer", .int 2),("most_record", .int 128),("uber", .int 4),("config", .int 4),("zap", .int 128)]
noncomputable abbrev dv:ab:= .inst 458 abT
theorem abU{r D:Addr}(h:σ r=some (.inst D fs))(hx:dR x fs=some v)(hf:mP D x=true)(hh:handOk v=true):vj σ (.ref r) x=some v:=by
 have e:lP σ (.ref r) x=some v:=by show (match σ r with | some (.inst _ fs)=>dR x fs | _=>none)=_;refine aa h ?_;exact hx
 have e2:pp σ (.ref r)=some D:=by show (match σ r with | some (.inst D _)=>some D | _=>none)=_;exact aa h rfl
 rewrite [vj];refine aa e ?_;exact mQ.i (by unfold attrOk;refine aH e2 hh ?_;simp [hf]) rfl
theorem bX{r D:Addr}{k:ab->Prop}(h:σ r=some (.inst D fs))(q:k v)(hx:dR x fs=some v:=by rfl)(hf:mP D x=true:=by rfl)(hh:handOk v=true:=by rfl):bB (vj σ (.ref r) x) k:=bB.i (abU h hx hf hh) q
theorem j7{D:Addr}{K:St->Prop}(h:st.σ a=some (.inst D fs))(k:K (st.put (st.σ.set a (.inst D (nR x v fs)))))(hf:mP D x=true:=by rfl)(hl:xT fs.length 100=true:=by rfl):tv (.ref a) x v st K :=
 ⟨a,D,fs,rfl,h,⟨hf,sO hl⟩,k⟩
theorem d7{m:List (Option ab)}{fz:List Nat}{D:Addr}{K:St->Prop}(k:K {m:=m,fz:=fz,σ:=σ.set a (.inst D (nR x v fs))})(hf:mP D x=true:=by rfl)(hl:xT fs.length 100=true:=by rfl):tv (.ref a) x v {m:=m,fz:=fz,σ:=σ.set a (.inst D fs)} K :=
 j7 bU (by show K {m:=m,fz:=fz,σ:=(σ.set a _).set a _};refine aa rZ ?_;exact k) hf hl
theorem aij(a b:Nat):(a:Int).fdiv (b:Int)=((a / b:Nat):Int):=by refine aa (BI _ (eh _)) ?_;rfl
theorem aik(a b:Nat):(a:Int).fmod (b:Int)=((a % b:Nat):Int):=aa (tr _ (eh _)) rfl
noncomputable def Ak(n w p:Nat):Nat:=let m:=(n+3) / 4;(m+p*((m+w - p - 1) / (w - p))+p) / (p+1)*(p+1)
noncomputable def jE(m w p:Nat):List Nat :=
 let low:=m / (w - p)
 let more:=m % (w - p)
 let big:=if 0<more then more+p else 0
 (aK (if low=0 then big else w)).map λi=>if i<big then low+1 else low
noncomputable def gS(s p:Nat):Bool:=decide (p=1)&&decide (s / 8 % 2=1)
noncomputable abbrev bG:=Nat×Nat×Nat×Int
variable {af:List bG}
noncomputable def xk(c:bG):List (Str×ab):= [("child", .n c.1),("row", .n c.2.1),("many", .n c.2.2.1),("first", .int c.2.2.2)]
noncomputable abbrev kJ(c:bG):ab:= .inst 77 (xk c)
theorem bf.n{b:Bool}{A B:Prop}(h:bf b B A):bf (!b) A B:=by cases b<;>exact h
theorem ki{K:ab->aq->Prop}{a b:Int}(e:a=b)(h:K (.int b) σ):K (.int a) σ:=e▸h
theorem ail{i:Nat}{v':ab}{K:St->Prop}(e:v=v')(h:K (st.jj i v'))(q:nV i st=true:=by rfl):pz i v st K:=e▸cX.i q h
theorem szl(h2:p<w)(hw:w≤10):(jE m w p).length≤20:=by
 unfold jE;dsimp only;refine aa (aC ..) (aa fh ?_)
 have:m % (w - p)<w - p:=Bg _ (ri h2)
 split
 ·split
  ·exact ag (gz (bO this) p) (ag (bS (vQ (bO h2))) (ag hw (nb rfl)))
  ·exact da _
 ·exact ag hw (nb rfl)
theorem iw(h:p<w):(w:Int) - (p:Int)=((w - p:Nat):Int):=(nm (bO h)).symm
section
variable{X:Cx}(C:Ctx X){n:Nat}{K:ab->aq->Prop}{σ:aq}
include C
theorem Mo(h:K (.n ((m+3) / 4)) σ):az X (n+1) (.ref 88) [.n m,dv] [] K σ :=
 C.call 1 rfl rfl ⟨⟨by decide,by decide⟩,ki (K:=K) (congrArg (λz=>fQ z 4) (abV (m:Int) 4 1)) h⟩
theorem Mp(h1:1≤p)(h3:p≤3)(h2:p<w)(h:K .none σ):az X (n+1) (.ref 95) [.n w, .n p] [] K σ :=
 C.call 2 rfl rfl (qf (a:=1) (b:=p) (λJ=>bf.n (qf (a:=p) (b:=3) (λJ=>qf (a:=w) (b:=p) (λq=>absurd h2 (dA.mpr q)) λJ=>h) λq=>absurd h3 q)) λq=>absurd h1 q)
theorem abW(hn:m≤1000)(h1:1≤p)(h3:p≤3)(h2:p<w)(hw:w≤10)(h:K (.n (Ak m w p)) σ):az X (n+2) (.ref 102) [.n m, .n w, .n p,dv] [] K σ:=by
 have q5:(m+3) / 4≤300:=ag (Al (gz hn 3)) (nb rfl)
 have e1:=abS (q:=(m+3) / 4) h2
 have hb:((m+3) / 4+w - p - 1) / (w - p)≤310:=ag (om _ _) (ag (gE ..) (ag (gE ..) (fL q5 hw)))
 have vY:p*(((m+3) / 4+w - p - 1) / (w - p))≤3*310:=Lu h3 hb
 have fi:p≤1000000:=ag h3 (nb rfl)
 have nu:((p:Int)+1).natAbs≤2^31:=cY (x:=p+1) (ag (fO h3) (nb rfl))
 have hA:=fL q5 vY
 have e2:fQ ((((m+3) / 4:Nat):Int)+p*fQ ((((m+3) / 4:Nat):Int)+w - p - 1) ((w:Int) - p)+p) ((p:Int)+1)=((((m+3) / 4+p*(((m+3) / 4+w - p - 1) / (w - p))+p) / (p+1):Nat):Int):=aH e1 (iw h2) rfl
 refine C.call 3 rfl rfl (Mp C h1 h3 h2 (Mo C ⟨⟨aa (iw h2) (λe=>fH (ri h2) (kE.mp e)),by refine aa (iw h2) ?_;exact cY (ag (gE ..) (ag hw (nb rfl)))⟩,
  ⟨cY fi,by refine aH e1 (iw h2) ?_;exact cY (ag hb (nb rfl))⟩,⟨(oI.mpr (Mq p):((p+1:Nat):Int)≠0),nu⟩,⟨by refine aa e2 ?_;exact cY (ag (om _ _) (ag (fL hA h3) (nb rfl))),nu⟩,ki (K:=K) (congrArg (λz=>z *((p:Int)+1)) e2) h⟩))
theorem abX(hm:m≤1000)(h2:p<w)(hw:w≤10)(h:K (aJ (jE m w p)) σ):az X (n+1) (.ref 107) [.n m, .n w, .n p] [] K σ:=by
 have Am:((w:Int) - (p:Int))≠0:=aa (iw h2) (λe=>fH (ri h2) (kE.mp e))
 have abY:m % (w - p)<w - p:=Bg _ (ri h2)
 have abZ:m % (w - p)+p≤20:=ag (fL (ag (bO abY) (gE ..)) (bO h2)) (fL hw hw)
 let S:Int×Int->St:=λy=>{m:= [some (.n m),some (.n w),some (.n p),some (.int y.1),some (.int y.2),none,none],fz:= [],σ:=σ}
 refine C.call 4 rfl rfl (join S (λy=>y.1=(m / (w - p):Nat)/\y.2=(m % (w - p):Nat)) (λK' k J=>⟨⟨Am,by refine aa (iw h2) ?_;exact cY (ag (gE ..) (ag hw (nb rfl)))⟩,Am,k (_,_) _ ⟨by refine aa (iw h2) ?_;rfl,by refine aa (iw h2) ?_;rfl⟩ rfl⟩) λ⟨_,_⟩ ⟨e1,e2⟩=> ?_);subst e1 e2;unfold aJ jE at h
 dsimp only at h
 generalize m / (w - p)=low at *
 generalize m % (w - p)=more at *
 let S2:Nat->St:=λb=>{m:= [some (.n m),some (.n w),some (.n p),some (.n low),some (.n more),some (.n b),none],fz:= [],σ:=σ}
 refine join S2 (λb=>b=if 0<more then more+p else 0) (λK' k J=>fg (a:=0) (b:=more) (λq=>k (more+p) _ (if_pos q).symm rfl) λq=>k 0 _ (if_neg q).symm rfl) λb hb=> ?_
 have zF:b≤20:=by refine aa hb ?_;split;exact abZ;exact da _
 rw [<-hb] at h
 let S3:Nat->St:=λu=>{m:= [some (.n m),some (.n w),some (.n p),some (.n low),some (.n more),some (.n b),some (.n u)],fz:= [],σ:=σ}
 refine join S3 (λu=>u=if low=0 then b else w) (λK' k J=>rU (a:=low) (b:=0) (λq=>k b _ (if_pos q).symm rfl) λq=>k w _ (if_neg q).symm rfl) λu hu=> ?_;rw [<-hu] at h
 have EB:u≤1000:=by refine aa hu ?_;split;exact ag zF (nb rfl);exact ag hw (nb rfl)
 exact ⟨rg EB,fe [false,false,false,false,false,false,false,true,true] (aK u) .n (λi=> .n (if i<b then low+1 else low)) (jC (k5 EB)) (λi hi K' k=>fg (a:=i) (b:=b) (λq=>k _ _ (congrArg ab.n (if_pos q).symm) rfl) λq=>k _ _ (congrArg ab.n (if_neg q).symm) rfl) (nq (jC EB) h) (i7 _)⟩
theorem ab0{s:Nat}(h:K (.bool (gS s p)) σ):az X (n+1) (.ref 114) [.n s, .n p,dv] [] K σ :=
 C.call 5 rfl rfl (rU (a:=p) (b:=1) (λq=>⟨⟨by decide,by decide⟩,by decide,(congrArg (λb=>K (.bool b) σ) (show gS s p=decide (((s / 8 % 2:Nat):Int)=1) by rewrite [gS];refine aa (decide_eq_true q) (aa (Mr ..) ?_);exact decide_eq_decide.mpr kE.symm)).mp h⟩)
  λq=>(congrArg (λb=>K (.bool b) σ) (show gS s p=decide ((p:Int)=1) by rewrite [gS];refine aa (decide_eq_false q) (aa (H5 ..) ?_);exact (decide_eq_false λe=>q (kE.mp e)).symm)).mp h)
end
section
variable {ob:α->d8}{r:Addr}{rs:List Addr}
noncomputable def gT(s w p:Nat):Nat->List Nat->Nat->List bG
 | _,[],_=> []
 | i,m::r,f=>((s % w+i) % w,s / w+(s % w+i) / w,m,if i<p then -1 else (f:Int))::gT s w p (i+1) r (if i<p then f else f+m)
theorem Ms{s i f:Nat}{r:List Nat}:gT s w p i (m::r) f=((s % w+i) % w,s / w+(s % w+i) / w,m,if i<p then -1 else (f:Int))::gT s w p (i+1) r (if i<p then f else f+m):=rfl
theorem ab1{s i f:Nat}:gT s w p i [] f= []:=rfl
noncomputable def EC:List bG->List bG
 | x::y::t=>(y.1,y.2.1,x.2.2.1,x.2.2.2)::(x.1,x.2.1,y.2.2.1,y.2.2.2)::t
 | l=>l
noncomputable def aW(s n w p:Nat):List bG :=
 if gS s p&&decide (1<(gT s w p 0 (jE ((n+3) / 4) w p) 0).length) then EC (gT s w p 0 (jE ((n+3) / 4) w p) 0) else gT s w p 0 (jE ((n+3) / 4) w p) 0
theorem An{i j:Nat}{x:α}(h:l.Nodup)(h1:l[i]? =some x)(h2:l[j]? =some x):i=j:=by
 obtain ⟨a1,b1⟩:=dr.mp h1;obtain ⟨a2,b2⟩:=dr.mp h2;rcases Nat.lt_trichotomy i j with q | q | q
 ·exact absurd (b1.trans b2.symm) (ab2.mp h i j a1 a2 q)
 ·exact q
 ·exact absurd (b2.trans b1.symm) (ab2.mp h j i a2 a1 q)
structure jF{α:Type}(ob:α->d8)(σ aD:aq)(a:Addr)(done:List α)(rs:List Addr):Prop where
 lst:aD a=some (.list (rs.map .ref))
 len:rs.length=done.length
 at_:∀(j:Nat) r c,rs[j]? =some r->done[j]? =some c->aD r=some (ob c)
 new:∀r∈rs,σ r=none
 nd:(a::rs).Nodup
 na:σ a=none
 keep:∀b o,σ b=some o->aD b=some o
theorem jF.ux{done:List α}(S:jF ob σ aD a done rs)(h:r∈a::rs):aD r≠none:=by
 rcases bq.mp h with rfl | h
 ·exact aa S.lst (λh=>nomatch h)
 ·obtain ⟨j,hj⟩:=p7.mp h
  have ab3:=(dr.mp hj).1
  have ab4:=S.len▸ab3
  rw [S.at_ j r done[j] hj (bE ab4)];exact λh=>nomatch h
theorem Ao{x:α}(h:k<(l++ [x]).length):k<l.length∨k=l.length:=by rw [de] at h;exact Nat.lt_or_eq_of_le (o5 h)
theorem Mt{x y:α}{j:Nat}(h:(l++ [x])[j]? =some y):(j<l.length/\l[j]? =some y)∨(j=l.length/\y=x):=by
 rcases Ao (dr.mp h).1 with q | q
 ·exact .inl ⟨q,(m8 q).symm.trans h⟩
 ·subst q;rw [ab5] at h;exact .inr ⟨rfl,(aM h).symm⟩
theorem jF.push{done:List α}(S:jF ob σ aD a done rs){c:α}(hr:aD r=none):jF ob σ ((aD.set r (ob c)).set a (.list ((rs++ [r]).map .ref))) a (done++ [c]) (rs++ [r]):=by
 have h0:r∉a::rs:=λh=>S.ux h hr
 have sj:r≠a:=λe=>h0 (ao e (.head _))
 have ng:σ r=none:=by
  rcases e:σ r with _ | o
  ·rfl
  ·exact nn (hr.symm.trans (S.keep r o e))
 refine ⟨bU,by refine aa de (aa de (aa S.len ?_));rfl,λj x d hj hd=> ?_,λx hx=> ?_,(ab6 r (a::rs)).nodup_iff.mpr (fW.mpr ⟨h0,S.nd⟩),S.na,λb o e=> ?_⟩
 ·rcases Mt hj with ⟨q,hj⟩ | ⟨q,rfl⟩
  ·have hx:=cr hj
   refine aa (bA (λe:x=a=>(fW.mp S.nd).1 (ao e hx))) (aa (bA (λe:x=r=>(show r∉rs from λh=>h0 (.tail _ h)) (ao e hx))) ?_);exact S.at_ j x d hj ((m8 (ao S.len q)).symm.trans hd)
  ·rcases Mt hd with ⟨q2,_⟩ | ⟨_,rfl⟩
   ·exact absurd q2 (by refine aa q (aa S.len ?_);exact iL _)
   ·exact aa (bA sj) (aa bU rfl)
 ·exact (jg.mp hx).elim (S.new x) λh=>aa (dL.mp h) ng
 ·have hb:b≠a:=λq=>nn (S.na.symm.trans (ao q e))
  refine aa (bA hb) (aa (bA (λq=>nn (ng.symm.trans (q▸e)))) ?_);exact S.keep b o e
theorem jF.ab7{val:α->ab}(ht:∀c r,aD r=some (ob c)->σ r=none->wQ aD σ (.ref r) (val c)){done:List α}:∀{rs:List Addr},rs.length=done.length->(∀(j:Nat) r c,rs[j]? =some r->done[j]? =some c->aD r=some (ob c))->(∀r∈rs,σ r=none)->qc aD σ (rs.map .ref) (done.map val):=by
 induction done with
 | nil =>
  intro rs h _ _;rcases rs with _ | _
  ·exact .nil
  ·exact p8 h
 | cons c done ih =>
  intro rs h ha hn;rcases rs with _ | ⟨r,rs⟩
  ·exact p8 h
  ·exact .cons (ht c r (ha 0 r c rfl rfl) (hn r (.head _))) (ih (qU h) (λj r' c' h1 h2=>ha (j+1) r' c' h1 h2) λr' hr=>hn r' (.tail _ hr))
theorem jF.out{done:List α}(S:jF ob σ aD a done rs){val:α->ab}(ht:∀c r,aD r=some (ob c)->σ r=none->wQ aD σ (.ref r) (val c)){K:ab->aq->Prop}(h:K (.list (done.map val)) σ):wS K (.ref a) aD :=
 ⟨_,σ,S.keep, .list S.lst S.na (jF.ab7 ht S.len S.at_ S.new),h⟩
theorem jF.upd{done:List α}(S:jF ob σ aD a done rs){i:Nat}{c:α}(hr:rs[i]? =some r):jF ob σ (aD.set r (ob c)) a (done.set i c) rs:=by
 have hm:=cr hr
 have sj:a≠r:=λe=>(fW.mp S.nd).1 (aa e hm)
 refine ⟨aa (bA sj) S.lst,aa kl S.len,λj x d hj hd=> ?_,S.new,S.nd,S.na,λb o e=> ?_⟩
 ·by_cases q:i=j
  ·subst q;replace hj:=hr▸hj;cases hj
   have iY:=(dr.mp hd).1
   rw [vE (by rw [kl] at iY;exact iY)] at hd
   cases hd;exact bU
  ·replace hd:=(Cg q)▸hd;rw [bA]
   ·exact S.at_ j x d hj hd
   ·rintro rfl
    have h1:=(dr.mp hr).1
    exact q (An ((fW.mp S.nd).2) hr hj)
 ·rw [bA]
  ·exact S.keep b o e
  ·rintro rfl;replace e:=(S.new _ hm)▸e;cases e
noncomputable abbrev ab8:=jF λc:bG=> .inst 77 (xk c)
theorem ED(c:bG)(r:Addr)(h:aD r=some (.inst 77 (xk c)))(h0:σ r=none):wQ aD σ (.ref r) (kJ c):= .inst h h0 (qc.refl _)
theorem bf.c{b:Bool}{A B:Prop}(h:b=true->A)(h':b=false->B):bf b A B:=by
 cases b
 ·exact h' rfl
 ·exact h rfl
theorem ab9{s n:Nat}(h:gS s p=false):aW s n w p=gT s w p 0 (jE ((n+3) / 4) w p) 0:=by unfold aW;refine aa h ?_;rfl
theorem ab'{s n:Nat}(h:gS s p=true):aW s n w p=if 1<(gT s w p 0 (jE ((n+3) / 4) w p) 0).length then EC (gT s w p 0 (jE ((n+3) / 4) w p) 0) else gT s w p 0 (jE ((n+3) / 4) w p) 0:=by
 unfold aW;refine aa h (aa (Mr ..) ?_);exact ite_congr (propext decide_eq_true_iff) (λJ=>rfl) λJ=>rfl
structure EE where
 done:List bG
 rs:List Addr
 f:Nat
 σ:aq
structure Ap(s w p:Nat)(lC:List Nat)(σ:aq)(a:Addr)(i:Nat)(x:EE):Prop where
 st:ab8 σ x.σ a x.done x.rs
 len:x.done.length=i
 eq:x.done++gT s w p i (lC.drop i) x.f=gT s w p 0 lC 0
theorem Ap.push{s i f':Nat}{lC:List Nat}{x:EE}{c:bG}(P:Ap s w p lC σ a i x)(hm:lC[i]? =some m)(hr:x.σ r=none)(hc:gT s w p i (m::lC.drop (i+1)) x.f=c::gT s w p (i+1) (lC.drop (i+1)) f') :
  Ap s w p lC σ a (i+1) ⟨x.done++ [c],x.rs++ [r],f',(x.σ.set r (.inst 77 (xk c))).set a (.list (x.rs.map .ref++ [.ref r]))⟩:=by
 refine iE (dr.mp hm) λiY eg=> ?_
 have e:=P.eq
 rw [vA iY,eg,hc] at e
 refine ⟨?_,by refine aa de (aa P.len ?_);rfl,aa (lb ..) e⟩
 have:=P.st.push (c:=c) hr
 rw [gR] at this
 exact this
section
variable{X:Cx}(C:Ctx X){n:Nat}{K:ab->aq->Prop}{σ:aq}
include C
theorem Mu{c:bG}{x1 x2 x3 x4:ab}(h:∀a,σ a=none->K (.ref a) (σ.set a (.inst 77 (xk c))))(e1:x1= .n c.1:=by rfl)(e2:x2= .n c.2.1:=by rfl)(e3:x3= .n c.2.2.1:=by rfl)(e4:x4= .int c.2.2.2:=by rfl):az X (n+2) (.ref 77) [x1,x2,x3,x4] [] K σ:=by
 subst e1 e2 e3 e4;exact call_cls C.ok rfl λa ha=>C.call 0 rfl rfl (d7 (d7 (d7 (d7 ⟨rfl,h a ha⟩))))
theorem aca{s:Nat}(hn:m≤1000)(h1:1≤p)(h3:p≤3)(h2:p<w)(hw:w≤10)(h:K (.list ((aW s m w p).map kJ)) σ):az X (n+3) (.ref 121) [.n s, .n m, .n w, .n p,dv] [] K σ:=by
 have sk:(w:Int)≠0:=λe=>absurd (eB (da p) h2) (aa (kE.mp (e:(w:Int)=((0:Nat):Int))) (iL 0))
 have xl:=cY (ag hw (nb rfl))
 refine az.out (C.call 6 rfl rfl (Mp C h1 h3 h2 (.own lk λa ha=>Mo C (abX C (ag (Al (gz hn 3)) (nb rfl)) h2 hw ?_))));replace ha:σ a=none:=ha
 have uq:=szl (m:=(m+3) / 4) h2 hw
 have f6:=λe=>ab9 (s:=s) (n:=m) (w:=w) (p:=p) e
 have EF:=λe=>ab' (s:=s) (n:=m) (w:=w) (p:=p) e
 generalize jE ((m+3) / 4) w p=lC at *
 let S:EE->St:=λx=>{m:= [some (.n s),some (.n m),some (.n w),some (.n p),some dv,some (.ref a),some (.n x.f),none,none,none,none,none,none],fz:= [],σ:=x.σ}
 refine loop [false,false,false,false,false,false,false,true,true,true,true,true,true] lC.zipIdx (λx=> .tuple [.n x.2, .n x.1]) S (λi x=>Ap s w p lC σ a i x) ⟨[],[],0,_⟩ ⟨⟨bU,rfl,λJ J J=>nofun,λJ=>nofun,by simp,ha,my ha⟩,rfl,rfl⟩ (λJ J J=>dW) (λi y x K' ei P k J=> ?_) (λx P=> ?_) (Ek .n lC 0)
 ·refine dP (zipIdx_get ei) λe1 e2=> ?_;obtain ⟨m',j⟩:=y;dsimp only at e1 e2
  subst e1
  have aR:(x.rs.map ab.ref).length≤1000000:=by refine aa (aC ..) (aa P.st.len (aa P.len ?_));exact ag (bO ((dr.mp e2).1)) (ag uq (nb rfl))
  have hx:∀{r o},x.σ r=none->(x.σ.set r o) a=some (.list (x.rs.map .ref)):=λ{r o} hr=>(bA λe=>P.st.ux (r:=a) (Bi ..) ((congrArg x.σ e).trans hr)).trans P.st.lst
  refine ⟨sk,⟨_,oy P.st.lst,sk,⟨sk,xl⟩,⟨sk,xl⟩,fg (a:=j) (b:=p) (λq=> ?_) λq=> ?_⟩⟩
  ·exact Mu C (c:=((s % w+j) % w,s / w+(s % w+j) / w,m', -1)) λr hr=>t0 (hx hr) aR (fg (a:=j) (b:=p) (λJ=>k _ _ (P.push e2 hr (aa Ms (aa (if_pos q) (aa (if_pos q) rfl)))) rfl) λq'=>absurd q q')
  ·exact Mu C (c:=((s % w+j) % w,s / w+(s % w+j) / w,m',(x.f:Int))) λr hr=>t0 (hx hr) aR (fg (a:=j) (b:=p) (λq'=>absurd q' q) λJ=>k _ _ (P.push e2 hr (aa Ms (aa (if_neg q) (aa (if_neg q) rfl)))) rfl)
 ·have e:=P.eq
  rw [EG,Yl,ab1,iU] at e
  rw [<-e] at f6 EF
  have ja:x.done.length≤1000000:=by refine aa P.len (aa EG ?_);exact ag uq (nb rfl)
  refine ab0 C (bf.c (λq=>cu (k:=x.done.length) ((rP P.st.lst).trans (congrArg some ((aC _).trans P.st.len))) ja (fg (a:=1) (b:=x.done.length) (λq2=> ?_) λq2=>P.st.out ED (by rw [EF q,if_neg q2] at h;exact h))) λq=>P.st.out ED (ao (f6 q) h));obtain ⟨done,rs,f,aD⟩:=x
  have St:=P.st
  have gD:1<rs.length:=aa St.len q2
  have ng:=bE (Nat.lt_of_succ_lt gD)
  have qq:=bE gD
  generalize rs[0]=r0 at ng
  generalize rs[1]=r1 at qq
  rw [EF q,if_pos q2] at h
  rcases done with _ | ⟨c0,_ | ⟨c1,t⟩⟩
  ·exact absurd q2 (EH 1)
  ·exact absurd q2 (iL 1)
  have h0:=St.at_ 0 r0 c0 ng rfl
  have h1:=St.at_ 1 r1 c1 qq rfl
  refine ly (i:=0) St.lst (by rw [cW,ng];rfl) (nb rfl) (ly (i:=1) St.lst (by rw [cW,qq];rfl) (nb rfl) (bX h1 (v:= .n c1.1) (bX h1 (v:= .n c1.2.1) (bX h0 (v:= .n c0.1) (bX h0 (v:= .n c0.2.1)
   (j7 h0 (d7 (j7 ((bA (λe=>absurd (An (fW.mp St.nd).2 ng (e▸qq)) (by decide))).trans h1) (d7 ?_)))))))))
  exact ((St.upd (i:=0) (c:=(c1.1,c1.2.1,c0.2.2.1,c0.2.2.2)) ng).upd (i:=1) (c:=(c0.1,c0.2.1,c1.2.2.1,c1.2.2.2)) qq).out ED h
end
end
noncomputable def lD(oct:List UInt8)(b size:Nat):List UInt8:=(oct.take (b+size)).drop b++cf (size - ((oct.take (b+size)).drop b).length) 0
noncomputable def eP(oct:List UInt8)(af:List bG):List (List UInt8):=af.filterMap λc=>if c.2.2.2<0 then none else some (lD oct (c.2.2.2.toNat*4) (c.2.2.1*4))
theorem Aq(oct:List UInt8)(b size:Nat):(lD oct b size).length=size:=by
 unfold lD;refine aa de (aa pP ?_);exact lM (by refine aa f0 (aa iX ?_);exact Nat.sub_le_of_le_add (ao (lg b size) (kB ..)))
def oJ(af:List bG):Prop:=∀c∈af,c.2.2.1≤100/\c.2.2.2≤100
theorem acb(h:oJ af):Short (eP oct af):=λp hp=>by
 obtain ⟨c,hc,e⟩:=oE.mp hp
 split at e
 ·cases e
 ·cases e;refine aa (Aq ..) ?_;have:=h c hc;exact ag (uU 4 this.1) (by decide)
noncomputable def aF(oct:List UInt8)(af:List bG)(p:Nat):List (List UInt8):=lx (eP oct af) p++eP oct af
noncomputable abbrev jG(af:List bG):ab:= .list (af.map kJ)
noncomputable def Mv(ls:List Addr)(p:Nat):List (Str×ab):= [("children", .list (ls.map .ref)),("parity", .n p),("guid", .int 7),("shape",dv)]
noncomputable abbrev b0(ls:List Addr)(p:Nat):ab:= .inst 338 (Mv ls p)
noncomputable def Ar(oct:List UInt8)(acc:List (List UInt8))(c:bG):List (List UInt8):=if c.2.2.2<0 then acc else acc++ [lD oct (c.2.2.2.toNat*4) (c.2.2.1*4)]
theorem acd(oct:List UInt8)(af:List bG):∀acc,af.foldl (Ar oct) acc=acc++eP oct af:=by
 induction af with
 | nil=>exact λacc=>(iU acc).symm
 | cons c af ih =>
  intro acc;refine aa mq (aa (ih ..) ?_);rewrite [Ar];unfold eP;refine aa lz ?_
  by_cases q:c.2.2.2<0
  ·exact aa (if_pos q) (aa (if_pos q) rfl)
  ·refine aa (if_neg q) (aa (if_neg q) (aa (lb ..) ?_));rfl
theorem toNat_sub'(a b:Nat):((a:Int) - (b:Int)).toNat=a - b:=Z7 a b
theorem ace{b z:Nat}:((oct.take (b+z)).drop b).length≤z:=by
 refine aa f0 (aa iX ?_);exact Nat.sub_le_iff_le_add'.mpr (kB ..)
theorem EI(m:Nat):fQ ((m:Int)+4 - 1) 4=((m+3) / 4:Nat):=congrArg (λz=>fQ z 4) (abV (m:Int) 4 1)
section
variable{X:Cx}(C:Ctx X){n:Nat}{K:ab->aq->Prop}{σ:aq}
include C
theorem acf(ho:oct.length≤1000)(hc:oJ af)(hcl:af.length≤10)(h:K (jB (eP oct af)) σ):az X (n+1) (.ref 128) [.bytes oct,jG af,dv] [] K σ:=by
 refine az.out (C.call 7 rfl rfl (.own lk λa ha=> ?_));replace ha:σ a=none:=ha
 let S:List (List UInt8)->St:=λacc=>{m:= [some (.bytes oct),some (jG af),some dv,some (.ref a),none,none,none,none],fz:= [],σ:=σ.set a (.list (acc.map .bytes))}
 refine jY [false,false,false,false,true,true,true,true] af kJ (Ar oct) S (λi acc=>acc.length≤i) [] (cb _) (λi c acc J h=> ?_) (λJ=>dW) (λi c acc K' ei i0 k J=> ?_) λJ=>w0 (my ha) bU ha (by refine aa (acd ..) ?_;exact h)
 ·unfold Ar
  split
  ·exact mi h
  ·exact aa de (fO h)
 ·obtain ⟨hm,hf⟩:=hc c (cr ei)
  have i0:=ag i0 (ag (bO (dr.mp ei).1) hcl)
  obtain ⟨c1,c2,z,f⟩:=c;cases f with
  | negSucc f=>exact k acc _ (if_pos (Int.negSucc_lt_zero f)).symm rfl
  | ofNat f =>
   have hf:f≤100:=dT.mp hf
   have hz:z*4≤1000:=ag (uU 4 hm) (by decide)
   have Mw:f*4≤1000:=ag (uU 4 hf) (by decide)
   have hl:=ace (oct:=oct) (b:=f*4) (z:=z*4)
   have j6:=ag hl hz
   refine ⟨⟨cY (ag hf (by decide)),by decide⟩,⟨⟨cY (ag hm (by decide)),by decide⟩, .bytes _ (f*4) (f*4+z*4) rfl (wX (k6 Mw)) (wY (ag (fL Mw hz) (by decide))) (k6 ho) (rQ ⟨_,oy bU,cu rfl (k6 j6)
    (zM (It (dT.mpr hl)) (ic (acg _ (eh _)) (dT.mpr (k6 hz))) ⟨?_,app (f:= .bytes) (x:=lD oct (f*4) (z*4)) (congrArg (λk=>ab.bytes (_++cf k 0)) (toNat_sub' (z*4) _)) (ag i0 (by decide)) (k _ _ (if_neg (jU.mpr (eh f))).symm rfl)⟩)⟩)⟩⟩
   show _≤_
   exact aa pP (ag (fL j6 (tW.mpr (ic (acg _ (eh _)) (dT.mpr hz)))) (by decide))
theorem EJ(ho:oct.length≤1000)(hc:oJ af)(hcl:af.length≤10)(hp:p<10)(h:K (jB (aF oct af p)) σ):az X (n+4) (.ref 276) [b0 ls p, .bytes oct,jG af] [] K σ:=by
 refine C.call 30 rfl rfl (acf C ho hc hcl (aag C (acb hc) (ag (bO hp) (by decide)) ⟨?_,by refine ao gR ?_;exact h⟩))
 show _≤_
 rw [aC,aC,lx,aC,fh];exact ag (fL (bO hp) (ag (tN _ _) hcl)) (by decide)
theorem ach(hn:m≤1000)(h1:1≤p)(h3:p≤3)(h2:p<ls.length)(hw:ls.length≤10)(h:K (.n (Ak m ls.length p)) σ):az X (n+3) (.ref 262) [b0 ls p, .n m] [] K σ :=
 C.call 28 rfl rfl (cu (k:=ls.length) (congrArg some (aC _)) (ag hw (by decide)) (abW C hn h1 h3 h2 hw h))
theorem Au{s:Nat}(hn:m≤1000)(h1:1≤p)(h3:p≤3)(h2:p<ls.length)(hw:ls.length≤10)(h:K (jG (aW s m ls.length p)) σ):az X (n+4) (.ref 269) [b0 ls p, .n s, .n m] [] K σ :=
 C.call 29 rfl rfl (cu (k:=ls.length) (congrArg some (aC _)) (ag hw (by decide)) (aca C hn h1 h3 h2 hw h))
theorem Mx(h:K (.n ((m+3) / 4)) σ):az X (n+1) (.ref 476) [.n m, .int 4] [] K σ:=C.call 49 rfl rfl ⟨⟨by decide,by decide⟩,ki (K:=K) (EI m) h⟩
theorem aci(hn:m≤1000)(h:K (.n ((m+3) / 4*4)) σ):az X (n+1) (.ref 469) [.n m, .int 4] [] K σ :=
 C.call 48 rfl rfl ⟨⟨by decide,by decide⟩,⟨by refine aa (EI ..) ?_;exact cY (ag (om _ _) (ag (gz hn 3) (by decide))),by decide⟩,ki (K:=K) (congrArg (λz=>z *4) (EI m)) h⟩
theorem My(h:K (.int 1) σ):az X (n+1) (.ref 476) [.int 4, .int 4] [] K σ:=Mx C (m:=4) h
theorem Mz(h:K (.int 2) σ):az X (n+3) (.ref 497) [dv] [] K σ:=C.call 52 rfl rfl (C.call 51 rfl rfl (My C (C.call 50 rfl rfl (My C ⟨⟨by decide,by decide⟩,h⟩))))
end
noncomputable def Av(c4:Bool):List ab:=if c4 then [.tuple [.int 9, .int 10]] else []
structure jH(σ:aq)(m r:Addr)(c4:Bool):Prop where
 m:σ m=some (.inst 641 [("rows", .ref r)])
 r:σ r=some (.list (Av c4))
theorem aim{r:Addr}(h:σ r=some (.list vs)):tZ σ (.ref r)=some vs.length:=by
 exact rP h
theorem acj{j:Int}{k:ab->Prop}(h:σ a=some (.list vs))(hj:px j vs=some v)(q:k v):bB (mT σ (.ref a) j) k :=
 bB.i (show (mR (σ a)).bind _=_ by refine aa (oA h) ?_;exact hj) q
theorem ack:px (fQ (0+1) 2) (Av true)=some (.tuple [.int 9, .int 10]):=by kernel_rfl
noncomputable def oK(c4:Bool)(x:Nat):Nat:=if c4&&decide (9≤x) then 1 else 0
section
variable{X:Cx}(C:Ctx X){n:Nat}{K:ab->aq->Prop}{σ:aq}{m r:Addr}{c4:Bool}
theorem jH.cls(R:jH σ m r c4):pp σ (.ref m)=some 641:=by show (match σ m with | some (.inst D _)=>some D | _=>none)=_;exact aa R.m rfl
theorem jH.no(R:jH σ m r c4)(e:dR x [(("rows" :Str),ab.ref r)]=none):lP σ (.ref m) x=none:=by show (match σ m with | some (.inst _ fs)=>dR x fs | _=>none)=_;refine aa R.m ?_;exact e
theorem jH.aI(C:Ctx X)(R:jH σ m r c4){f:Addr}{k:Value->Prop}(h:k (.ref f))(hm:po 641 x=some f:=by rfl)(e:dR x [(("rows" :Str),ab.ref r)]=none:=by rfl):MethP X σ (.ref m) x k:=⟨_,wT C.ok hm R.cls (R.no e),h⟩
include C
theorem EK{b z:Nat}(h:K .none σ):az X (n+1) (.ref 534) [.ref m, .n b, .n z] [] K σ:=C.call 55 rfl rfl h
theorem Aw(R:jH σ m r c4){x:Nat}(h:K (.n (oK c4 x)) σ):az X (n+1) (.ref 527) [.ref m, .n x] [] K σ:=by
 refine C.call 54 rfl rfl (bX R.m (v:= .ref r) (cu (rP R.r) (by cases c4<;>decide) ?_));cases c4 with
 | false=>exact jh [] (λ_:Unit=>{m:= [some (.ref m),some (.n x),some (.n 0),some (.n 0),none],fz:= [],σ:=σ}) (λJ=>0) (λJ=>True) () trivial λJ K' J J=>h
 | true =>
  let S:Int×Int->St:=λy=>{m:= [some (.ref m),some (.n x),some (.int y.1),some (.int y.2),none],fz:= [],σ:=σ}
  refine jh [false,false,false,false,true] S (λy=>(y.2 - y.1).toNat) (λy=>(y.1=0/\y.2=1)∨(y.1=(oK true x:Nat)/\y.2=(oK true x:Nat))) (0,1) (.inl ⟨rfl,rfl⟩) λy K' P k=> ?_;obtain ⟨l,u⟩:=y
  have lt:∀z:Int,(z - z).toNat<((1:Int) - 0).toNat:=λz=>by refine aa (MA ..) ?_;decide
  rcases P with ⟨e1,e2⟩ | ⟨e1,e2⟩<;>subst e1 e2
  ·exact ⟨⟨by decide,by decide⟩,bX R.m (v:= .ref r) (acj R.r ack (qf (a:=9) (b:=x) (λq=>k (_,_) _ (lt _) (.inr ⟨(congrArg kX (if_pos (by refine aa (decide_eq_true q) ?_;rfl):oK true x=1)).symm,(congrArg kX (if_pos (by refine aa (decide_eq_true q) ?_;rfl):oK true x=1)).symm⟩) rfl)
    λq=>k (_,_) _ (lt _) (.inr ⟨(congrArg kX (if_neg (by refine aa (decide_eq_false q) ?_;exact ka):oK true x=0)).symm,(congrArg kX (if_neg (by refine aa (decide_eq_false q) ?_;exact ka):oK true x=0)).symm⟩) rfl))⟩
  ·exact fg (a:=oK true x) (b:=oK true x) (λq=>absurd q (iL _)) λJ=>h
theorem MB(R:jH σ m r c4)(h:K (.bool c4) σ):az X (n+2) (.ref 541) [.ref m, .int 9, .int 1] [] K σ:=by
 refine C.call 56 rfl rfl (R.aI C (EK C (b:=9) (z:=1) (R.aI C (Aw C R (x:=9) ?_))));cases c4 with
 | false=>exact h
 | true=>exact bX R.m (v:= .ref r) (ly (i:=0) R.r rfl (by decide) h)
theorem acl(R:jH σ m r false)(h:K .none (σ.set r (.list (Av true)))):az X (n+4) (.ref 596) [.ref m, .int 9, .int 1] [] K σ :=
 C.call 58 rfl rfl (R.aI C (C.call (n:=n+2) 57 rfl rfl (R.aI C (EK C (b:=9) (z:=1) (R.aI C (Aw C R (x:=9) (R.aI C (C.call 59 rfl rfl (R.aI C (EK C (b:=9) (z:=1) (R.aI C (Aw C R (x:=9) (R.aI C (Aw C R (x:=10)
  (.fz lk (bX R.m (v:= .ref r) (.list r [] [.tuple [.int 9, .int 10]] 0 0 rfl R.r rfl rfl rfl lk (by decide) (by decide) h)))))))))))))))))
end
theorem xm{i:Int}(e:i=k)(h:k≤1000000):lT (some (.int i))=some k:=by subst e;exact wX h
theorem uy{i:Int}{n:Nat}(e:i=k)(h:k≤1000000):lV n (some (.int i))=some k:=xm e h
theorem MC{vS:aq}{w:Addr}{M:List (Option ab)}{F:List Nat}(h0:vS w=some (.list vs))(h:σ w=some (.list vs)):Guard (ownOf vS (.ref w)) {m:=M,fz:=F,σ:=σ}:=λq hq=>by
 rw [yi h0] at hq
 rw [dL] at hq;subst hq;exact h
noncomputable def splice(m:List UInt8)(p:Nat)(o:List UInt8):List UInt8:=m.take (4*p)++o++m.drop (4*p+4)
noncomputable abbrev Wt:=Nat×List UInt8
noncomputable def jb(mem:List UInt8)(aZ:List Wt):List UInt8:=aZ.foldl (λm x=>splice m x.1 x.2) mem
noncomputable def win(m:List UInt8)(s n:Nat):List UInt8:=(m.drop (4*s)).take (4*n)
def xn(S:Nat)(aZ:List Wt):Prop:=∀x∈aZ,x.1<S/\x.2.length=4
theorem EL{A R:List α}{n:Nat}(h:A.length=n):(A++R).take (n+k)=A++R.take k:=by subst h;exact List.take_length_add_append ..
theorem acm{A R:List α}{n:Nat}(h:A.length=n):(A++R).drop (n+k)=R.drop k:=by subst h;exact List.drop_length_add_append ..
theorem MD{m o:List UInt8}{S:Nat}(h:m.length=4*S)(hp:p<S)(ho:o.length=4):(m.take (4*p)++o).length=4*p+4:=by
 exact aa de (aa (xo (h▸c8 4 (bO hp))) (aa ho rfl))
theorem Ax{m o:List UInt8}{S:Nat}(h:m.length=4*S)(hp:p<S)(ho:o.length=4):(splice m p o).length=4*S:=by
 rewrite [splice];refine aa de (aa (MD h hp ho) (aa f0 (aa h ?_)));exact lM (c8 4 hp)
theorem Ay{aZ:List Wt}{S:Nat}:∀{mem:List UInt8},mem.length=4*S->xn S aZ->(jb mem aZ).length=4*S:=by
 induction aZ with
 | nil=>exact λh J=>h
 | cons x aZ ih=>exact λh hw=>ih (Ax h (hw x (.head _)).1 (hw x (.head _)).2) λy hy=>hw y (.tail _ hy)
theorem xp{m:List UInt8}{s n S:Nat}(h:m.length=4*S)(hs:s+n≤S):(win m s n).length=4*n:=by
 rewrite [win];refine aa iX (aa f0 (aa h ?_));exact gO (Nat.le_sub_of_add_le (by refine ao (ze ..) (aa (lg ..) ?_);exact c8 4 hs))
theorem acn{d o:List UInt8}{i:Nat}(hk:i+4≤k)(hd:i≤d.length)(ho:o.length=4):(d.take i++(o++d.drop (i+4))).take k=(d.take k).take i++o++(d.take k).drop (i+4):=by
 obtain ⟨e,rfl⟩:=Az hk;exact aa AA (aa (gO (ag (b6 i 4) (b6 _ e))) (aa tV (aa (nk ..) (aa (j9 ..) (aa (EL (xo hd)) (aa (EL ho) (aa (lb ..) rfl)))))))
theorem ME{m o:List UInt8}{S s n:Nat}(h:m.length=4*S)(hs:s+n≤S)(h1:s≤p)(h2:p<s+n)(ho:o.length=4) :
  win (splice m p o) s n=(win m s n).take (4*(p - s))++o++(win m s n).drop (4*(p - s)+4):=by
 obtain ⟨q,rfl⟩:=Az h1
 have hS:=c8 4 (ag (bO h2) hs)
 rw [ze] at hS
 rewrite [win];rewrite [win];rewrite [splice];refine aa (nk ..) (aa (ze ..) (aa (lb ..) (aa (aco (by rw [iX,h];exact zE.mpr ⟨b6 ..,ag (b6 ..) hS⟩)) (aa tV (aa (nk ..) (aa (j9 ..) (ao MF ?_)))))));exact acn (c8 4 (acp h2)) (by refine aa f0 (aa h ?_);exact MG hS) ho
theorem acq{m o:List UInt8}{S s n:Nat}(h:m.length=4*S)(hp:p<S)(h1:¬ (s≤p/\p<s+n))(ho:o.length=4):win (splice m p o) s n=win m s n:=by
 rw [win,win,splice];rcases MH p s with q | q
 ·obtain ⟨e,he⟩:=Az (show 4*p+4≤4*s from c8 4 q);exact aa he (aa (acm (MD h hp ho)) (aa MF rfl))
 ·have q2:=c8 4 (fA λr=>h1 ⟨q,r⟩)
  rw [ze] at q2
  have hl:4*p≤m.length:=h▸c8 4 (bO hp)
  exact aa (lb ..) (aa acr (aa (MI (by rw [xo hl];exact q2)) (aa AA (aa (gO q2) (ao acr rfl)))))
noncomputable abbrev qr(x:Wt):ab:= .tuple [.n x.1, .bytes x.2]
noncomputable def mB(b w:Addr)(out:Bool)(i j:Int):List (Str×ab):= [("sector", .int 4),("octets", .ref b),("waiting", .ref w),("is_out", .bool out),("reads", .int i),("writes", .int j)]
structure f7(σ:aq)(d b w:Addr)(out:Bool)(i j:Int)(mem:List UInt8)(aZ:List Wt):Prop where
 d:σ d=some (.inst 436 (mB b w out i j))
 b:σ b=some (.dh mem)
 w:σ w=some (.list (aZ.map qr))
theorem MJ{k:List ab->Prop}(h:σ a=some (.list vs))(q:k vs):bB (th σ (.ref a)) k:=bB.i (oA h) q
theorem sm{a:Nat}(h:a≤1000):((a:Int)).natAbs≤2^31/\(4:Int).natAbs≤2^31:=⟨cY (k6 h),by decide⟩
section
variable{X:Cx}(C:Ctx X){n:Nat}{K:ab->aq->Prop}{σ:aq}{d b w:Addr}{out:Bool}{i j:Int}{mem:List UInt8}{aZ:List Wt}{S:Nat}
theorem f7.cls(D:f7 σ d b w out i j mem aZ):pp σ (.ref d)=some 436:=by show (match σ d with | some (.inst D _)=>some D | _=>none)=_;exact aa D.d rfl
theorem f7.no(D:f7 σ d b w out i j mem aZ)(e:dR x (mB b w out i j)=none):lP σ (.ref d) x=none:=by show (match σ d with | some (.inst _ fs)=>dR x fs | _=>none)=_;refine aa D.d ?_;exact e
theorem f7.aI(C:Ctx X)(D:f7 σ d b w out i j mem aZ){f:Addr}{k:Value->Prop}(h:k (.ref f))(hm:po 436 x=some f:=by rfl)(e:dR x (mB b w out i j)=none:=by rfl):MethP X σ (.ref d) x k:=⟨_,wT C.ok hm D.cls (D.no e),h⟩
theorem f7.db(D:f7 σ d b w out i j mem aZ):d≠b/\d≠w/\b≠w:=⟨λe=>d8.noConfusion (aM (D.d.symm.trans ((congrArg σ e).trans D.b))),λe=>d8.noConfusion (aM (D.d.symm.trans ((congrArg σ e).trans D.w))),λe=>d8.noConfusion (aM (D.b.symm.trans ((congrArg σ e).trans D.w)))⟩
include C
theorem MK(D:f7 σ d b w out i j mem aZ)(hm:mem.length=4*S)(hS:S≤1000)(h:K (.n S) σ):az X (n+1) (.ref 363) [.ref d] [] K σ :=
 C.call 41 rfl rfl (bX D.d (v:= .ref b) (cu (k:=mem.length) (show (σ b).bind D9=_ by refine aa D.b ?_;rfl) (by refine aa hm ?_;exact ag (c8 4 hS) (nb rfl)) (bX D.d (v:= .int 4) ⟨⟨by decide,by decide⟩,ki (K:=K) (congrArg kX (show mem.length / 4=S by refine aa hm ?_;exact ML S (nb rfl))) h⟩)))
theorem MM(D:f7 σ d b w out i j mem aZ)(hm:mem.length=4*S)(hS:S≤1000){s z:Nat}(hs:s+z≤S)(h:K .none σ):az X (n+2) (.ref 370) [.ref d, .n s, .n z] [] K σ :=
 C.call 42 rfl rfl (D.aI C (MK C D hm hS (fg (a:=S) (b:=s+z) (λq=>absurd hs (C4.mpr q)) λJ=>h)))
theorem acs(D:f7 σ d b w false i j mem aZ)(hm:mem.length=4*S)(hS:S≤1000)(hw:xn S aZ){s z:Nat}(hs:s+z≤S)
  (h:∀σ',σ' d=some (.inst 436 (mB b w false (i+z) j))->(∀x,x≠d->σ x≠none->σ' x=σ x)->K (.bytes (win (jb mem aZ) s z)) σ'):az X (n+3) (.ref 377) [.ref d, .n s, .n z] [] K σ:=by
 obtain ⟨db,dw,bw⟩:=D.db
 let aD:aq:=σ.set d (.inst 436 (mB b w false (i+z) j))
 have e1:∀{x:Addr},x≠d->aD x=σ x:=λh=>bA h
 have ed:aD d=some (.inst 436 (mB b w false (i+z) j)):=bU
 have mm:s≤1000:=ag (b6 ..) (ag hs hS)
 have h4:4*(s+z)≤1000000:=ag (c8 4 (ag hs hS)) (nb rfl)
 refine C.call 43 rfl rfl (D.aI C (MM C D hm hS hs (bX D.d (v:= .bool false) (bX D.d (v:= .int i) (j7 D.d (bX ed (v:= .ref b) (bX ed (v:= .int 4) ⟨sm mm,bX ed (v:= .int 4) ⟨sm (a:=s+z) (ag hs hS), .dh b mem (4*s) (4*(s+z)) rfl ((e1 db.symm).trans D.b)
  (xm (sn _ 4) (ag (c8 4 mm) (nb rfl))) (uy (sn _ 4) h4) (by show _≤_;refine aa hm ?_;exact ag (c8 4 hS) (nb rfl)) λt ht=> ?_⟩⟩)))))))
 replace ht:aD t=none:=ht
 have e2:(mem.take (4*(s+z))).drop (4*s)=win mem s z:=by
  unfold win;exact aa tV (ao (Nat.mul_sub ..) (aa (nk ..) rfl))
 refine aa e2 ?_
 have DG:d≠t:=λe=>nn (ht.symm.trans ((congrArg aD e.symm).trans ed))
 have EM:w≠t:=λe=>nn (ht.symm.trans ((congrArg aD e.symm).trans ((e1 dw.symm).trans D.w)))
 have AB:∀o,(aD.set t o) d=some (.inst 436 (mB b w false (i+z) j)):=λo=>(bA DG).trans ed
 have ew:∀o,(aD.set t o) w=some (.list (aZ.map qr)):=λo=>(bA EM).trans ((e1 dw.symm).trans D.w)
 let S':List UInt8->St:=λm=>{m:= [some (.ref d),some (.n s),some (.n z),some (.ref t),none,none,none],fz:= [],σ:=aD.set t (.dh (win m s z))}
 refine bX (AB _) (v:= .ref w) (MJ (ew _) (jY [false,false,false,false,true,true,true] aZ qr (λm x=>splice m x.1 x.2) S' (λJ m=>m.length=4*S) mem hm (λi x m e h=>Ax h (hw x (cr e)).1 (hw x (cr e)).2) (λJ=>MC (ew _) (ew _)) (λi x m K' ek l9 k J=> ?_)
  λhl=>Zd bU (by refine aa (xp hl hs) ?_;exact ag (c8 4 (ag (lm ..) (ag hs hS))) (nb rfl)) (h _ (AB _) λx hx hn=>(bA λe=>hn ((e1 hx).symm.trans ((congrArg aD e).trans ht))).trans (e1 hx))))
 obtain ⟨hp,ho⟩:=hw _ (cr ek)
 have out:=λq=>congrArg (λw=>St.mk [some (.ref d),some (.n s),some (.n z),some (.ref t),none,none,none] [] (aD.set t (.dh w))) (acq (s:=s) (n:=z) l9 hp q ho).symm
 refine qf (a:=s) (b:=x.1) (λq1=>fg (a:=x.1) (b:=s+z) (λq2=> ?_) λq2=>k _ _ rfl (out λh=>q2 h.2)) λq1=>k _ _ rfl (out λh=>q1 h.1)
 have e4:((x.1:Int) - (s:Int))*4=((4*(x.1 - s):Nat):Int):=by refine ao (nm q1) (aa (sn ..) ?_);rfl
 have iT:x.1 - s≤1000:=ag (gE ..) (ag (bO hp) hS)
 have bx:4*(x.1 - s)+4≤4*z:=c8 4 (Nat.sub_lt_left_of_lt_add q1 q2)
 have hz:4*z≤1000000:=ag (c8 4 (lm z s)) h4
 have jc:=xp l9 hs
 exact bX (AB _) (v:= .int 4) ⟨⟨ao (nm q1) (cY (k6 iT)),by decide⟩,bX (AB _) (v:= .int 4) (.dh t (win m s z) x.2 (4*(x.1 - s)) (4*(x.1 - s)+4) rfl bU rfl (xm e4 (ag (ig (ig (ig (ig bx)))) hz)) (uy (congrArg (λz=>z +4) e4) (ag bx hz))
  (by show _≤_;refine aa jc ?_;exact hz) (congrArg _ ho) (aa jc bx) (k _ _ rfl (congrArg (St.mk _ _) (rZ.trans (congrArg (λw=>aD.set t (.dh w)) (ME l9 hs q1 q2 ho).symm)))))⟩
end
theorem MN(h:σ a=some o):σ.set a o=σ:=by
 funext c;unfold aq.set;by_cases q:c=a
 ·subst q;exact aa (if_pos rfl) (aa h rfl)
 ·exact aa (if_neg q) rfl
noncomputable def jd(s:Nat)(oct:List UInt8)(n:Nat):List Wt:=(aK n).map λk=>(s+k,(oct.take (4*k+4)).drop (4*k))
theorem act(s:Nat)(oct:List UInt8)(n:Nat):jd s oct (n+1)=jd s oct n++ [(s+n,(oct.take (4*n+4)).drop (4*n))]:=by
 unfold jd;refine aa zW (aa gR ?_);rfl
noncomputable def oM:d8->Nat
 | .list _=>0
 | .dh _=>1
 | .inst C _=>C+2
theorem AC{x y:Addr}{o':d8}(h:σ x=some o)(h':σ y=some o')(q:d9 (oM o) (oM o')=false:=by rfl):x≠y:=λe=>ff (q.symm.trans ((congrArg (λz=>d9 (oM o) (oM z)) (aM (h'.symm.trans ((congrArg σ e.symm).trans h)))).trans (Ge _)))
theorem eI{x y:Addr}{o' acu:d8}(h:σ x=some o)(h':σ y=some o')(q:d9 (oM o) (oM o')=false:=by rfl):(σ.set y acu) x=some o:=(bA (AC h h' q)).trans h
theorem sw{x:Addr}(h:σ x=some o):σ x≠none:=λe=>nn (e.symm.trans h)
theorem MO{x y:Addr}{o':d8}(h:σ x=some o)(h':σ y=none):(σ.set y o') x=some o:=(bA λe=>nn (h'.symm.trans ((congrArg σ e.symm).trans h))).trans h
theorem acv(s:Nat)(oct:List UInt8)(n:Nat)(aZ:List Wt):(aK n).foldl (λacc k=>acc++ [((s+k,(oct.take (4*k+4)).drop (4*k)):Wt)]) aZ=aZ++jd s oct n:=Mb _ _ _
section
variable{X:Cx}(C:Ctx X){n:Nat}{K:ab->aq->Prop}{σ:aq}{d b w:Addr}{out:Bool}{i j:Int}{mem:List UInt8}{aZ:List Wt}{S:Nat}
include C
theorem acw(D:f7 σ d b w false i j mem aZ)(hm:mem.length=4*S)(hS:S≤1000)(jc:aZ.length≤1000){s z:Nat}(ho:oct.length=4*z)(hs:s+z≤S)
  (h:K (.bool true) ((σ.set w (.list ((aZ++jd s oct z).map qr))).set d (.inst 436 (mB b w false i (j+z))))):az X (n+3) (.ref 384) [.ref d, .n s, .bytes oct] [] K σ:=by
 have hz:z=oct.length / 4:=by refine aa ho ?_;exact (ML z (by decide)).symm
 have h0:oct.length % 4=0:=by refine aa ho ?_;exact Nat.mul_mod_right 4 z
 have EN:z≤1000:=ag (lm ..) (ag hs hS)
 have gq:oct.length≤1000000:=by refine aa ho ?_;exact ag (c8 4 EN) (by decide)
 subst hz
 have qs:∀o,(σ.set w o) d=some (.inst 436 (mB b w false i j)):=λo=>eI D.d D.w
 let S':List Wt->St:=λacc=>{m:= [some (.ref d),some (.n s),some (.bytes oct),some (.n (oct.length / 4)),none],fz:= [],σ:=σ.set w (.list (acc.map qr))}
 refine C.call 44 rfl rfl (cu rfl gq (bX D.d (v:= .int 4) ⟨by decide,wV (a:=oct.length % 4) (b:=0) (λJ=>cu rfl gq (bX D.d (v:= .int 4) ⟨⟨by decide,by decide⟩,D.aI C (MM C D hm hS hs (bX D.d (v:= .bool false) ⟨rg EN,
  jY [false,false,false,false,true] (aK (oct.length / 4)) .n (λacc k=>acc++ [((s+k,(oct.take (4*k+4)).drop (4*k)):Wt)]) S' (λi acc=>acc.length≤1000+i) aZ jc (λi k acc J h=>by refine aa de ?_;exact fO h) (λJ=>dW) (λi k acc K' ek i0 kk J=> ?_)
   (λJ=>bX (qs _) (v:= .int j) (j7 (qs _) (by refine aa (acv ..) ?_;exact h))) (i7 _) (congrArg (St.mk _ _) (MN D.w).symm)⟩))⟩)) λq=>absurd h0 q⟩))
 obtain ⟨rfl,hk⟩:=qk ek
 have qt:=ag (bO hk) EN
 exact bX (qs _) (v:= .ref w) ⟨_,oy bU,bX (qs _) (v:= .int 4) ⟨sm qt,bX (qs _) (v:= .int 4) ⟨⟨cY (x:=i+1) (ag (fO qt) (by decide)),by decide⟩, .bytes _ (4*i) (4*i+4) rfl (xm (sn _ 4) (ag (c8 4 qt) (by decide)))
  (uy (sn _ 4) (ag (gz (c8 4 qt) 4) (by decide))) gq (rQ (app (f:=qr) (x:=(s+i,(oct.take (4*i+4)).drop (4*i))) rfl (ag i0 (ag (lL qt 1000) (by decide))) (kk _ _ rfl rfl)))⟩⟩⟩
theorem acx(D:f7 σ d b w out i j mem aZ)(hm:mem.length=4*S)(hS:S≤1000){s:Nat}{o:List UInt8}(ho:o.length=4)(hs:s<S)(h:K .none (σ.set b (.dh (splice mem s o)))):az X (n+1) (.ref 391) [.ref d, .n s, .bytes o] [] K σ :=
 have mm:=ag (bO hs) hS
 have EP:mem.length≤1000000:=by refine aa hm ?_;exact ag (c8 4 hS) (by decide)
 have h4:4*s+4≤mem.length:=hm▸c8 4 hs
 C.call 45 rfl rfl (bX D.d (v:= .ref b) (bX D.d (v:= .int 4) ⟨sm mm,bX D.d (v:= .int 4) ⟨⟨cY (x:=s+1) (ag (fO mm) (by decide)),by decide⟩,
  .dh b mem o (4*s) (4*s+4) rfl D.b rfl (xm (sn _ 4) (ag (ag (b6 _ 4) h4) EP)) (uy (sn _ 4) (ag h4 EP)) EP (congrArg _ ho) h4 h⟩⟩))
theorem acy(D:f7 σ d b w false i j mem aZ)(hm:mem.length=4*S)(hS:S≤1000)(hw:xn S aZ)
  (h:∀w',σ w'=none->K (.bool true) (((σ.set b (.dh (jb mem aZ))).set w' (.list [])).set d (.inst 436 (mB b w' false i j)))):az X (n+2) (.ref 398) [.ref d] [] K σ:=by
 have qs:∀o,(σ.set b o) d=some (.inst 436 (mB b w false i j)):=λo=>eI D.d D.b
 have MP:∀o,(σ.set b o) w=some (.list (aZ.map qr)):=λo=>eI D.w D.b
 let S':List UInt8->St:=λm=>{m:= [some (.ref d),none,none],fz:= [],σ:=σ.set b (.dh m)}
 refine C.call 46 rfl rfl (bX D.d (v:= .bool false) (bX D.d (v:= .ref w) (MJ D.w (jY [false,true,true] aZ qr (λm x=>splice m x.1 x.2) S' (λJ m=>m.length=4*S) mem hm (λi x m e h=>Ax h (hw x (cr e)).1 (hw x (cr e)).2) (λJ=>MC D.w (MP _)) (λk x m K' ek l9 kk J=> ?_)
  (λJ=> .own lk λw' iR=> ?_) rfl (congrArg (St.mk _ _) (MN D.b).symm)))))
 ·obtain ⟨hp,ho⟩:=hw _ (cr ek)
  have Dk:f7 (σ.set b (.dh m)) d b w false i j m aZ:=⟨qs _,bU,MP _⟩
  exact Dk.aI C (acx C Dk l9 hS ho hp (kk _ _ rfl (congrArg (St.mk _ _) rZ)))
 ·obtain ⟨wb,iR⟩:=mz (σ:=σ) (a:=b) (o:= .dh (jb mem aZ)) iR;exact j7 (MO (qs _) ((bA wb).trans iR)) (h w' iR)
theorem acz(D:f7 σ d b w out i j mem aZ)(jc:aZ.length≤1000)(h:K (.n aZ.length) σ):az X (n+1) (.ref 405) [.ref d] [] K σ :=
 C.call 47 rfl rfl (bX D.d (v:= .ref w) (cu (k:=aZ.length) ((rP D.w).trans (congrArg some (aC _))) (k6 jc) h))
end
structure Lf where
 out:Bool
 c4:Bool
 cont:List UInt8
 wn:Nat
variable {Ls:List Lf}
structure Ft where
 d:Addr
 b:Addr
 w:Addr
 m:Addr
 r:Addr
noncomputable def Ft.all(f:Ft):List Addr:= [f.d,f.b,f.w,f.m,f.r]
noncomputable def qv(d:Addr)(g:Int)(m:Addr):List (Str×ab):= [("disk", .ref d),("guid", .int g),("shape",dv),("missing", .ref m)]
structure gU(S row aP:Nat)(σ:aq)(a:Addr)(f:Ft)(L:Lf)(g i j:Int)(mem:List UInt8)(aZ:List Wt):Prop where
 lf:σ a=some (.inst 739 (qv f.d g f.m))
 dk:f7 σ f.d f.b f.w L.out i j mem aZ
 rg:jH σ f.m f.r L.c4
 len:mem.length=4*S
 wk:xn S aZ
 cont:win (jb mem aZ) (2+row) aP=L.cont
 wn:aZ.length=L.wn
 nd:f.w≠f.r
def mD(S row aP:Nat)(σ:aq)(a:Addr)(f:Ft)(L:Lf):Prop:=∃g i j mem aZ,gU S row aP σ a f L g i j mem aZ
def Upd(S row aP:Nat)(σ:aq)(a:Addr)(f:Ft)(σ':aq)(L:Lf):Prop :=
 ∃f',mD S row aP σ' a f' L/\(∀x∈f'.all,x∈f.all∨σ x=none)/\∀x,x≠a->x∉f.all->σ x≠none->σ' x=σ x
theorem MQ{n:Nat}(ho:oct.length=4*n)(hk:k<n):((oct.take (4*k+4)).drop (4*k)).length=4:=by
 exact aa f0 (aa (xo (ho▸c8 4 hk)) (aa (nk ..) rfl))
theorem MR{row S:Nat}(h4:4≤S)(hs:row+aP≤S - 4):2+row+aP≤S:=by
 exact aa (j9 ..) (ag (fL (by decide:2≤4) hs) (bS (lM h4)))
theorem acA{s n:Nat}{m:List UInt8}{S:Nat}(hm:m.length=4*S)(ho:oct.length=4*n)(hs:s+n≤S)(hk:k≤n):(jb m (jd s oct k)).length=4*S/\win (jb m (jd s oct k)) s k=oct.take (4*k):=by
 induction k with
 | zero=>exact ⟨hm,by rw [win,Nat.mul_zero,EQ,EQ]⟩
 | succ k ih =>
  have ih:=ih (ig hk)
  have hl:=ih.1
  have hc:=MQ ho hk
  have v6:s+(k+1)≤S:=ag (lL hk s) hs
  have e:jb m (jd s oct (k+1))=splice (jb m (jd s oct k)) (s+k) ((oct.take (4*k+4)).drop (4*k)):=by
   refine aa (act ..) ?_;unfold jb;refine aa rM ?_;rfl
  refine aa e (⟨Ax hl v6 hc, ?_⟩);refine aa (ME hl v6 (b6 s k) (jr _) hc) (aa (nk ..) (aa (tF (i:=4*k+4) (bS (xp hl v6))) (aa (iU ..) ?_)))
  have e1:(win (jb m (jd s oct k)) s (k+1)).take (4*k)=(oct.take (4*k+4)).take (4*k):=by
   rw [AA,gO (b6 _ _),<-ih.2,win,win,AA,gO (c8 4 (l6 k))]
  refine aa e1 (aa (ER ..) ?_)
  rfl
theorem acB{s n S:Nat}(ho:oct.length=4*n)(hs:s+n≤S):xn S (jd s oct n):=λx hx=>by
 obtain ⟨k,hk,rfl⟩:=bF.mp hx
 have hk:=fU.mp hk
 exact ⟨et (wK hk s) hs,MQ ho hk⟩
theorem MS(z:Nat):(4*z+3) / 4=z:=Nat.mul_add_div (by decide) z 3
section
variable{X:Cx}(C:Ctx X){n:Nat}{K:ab->aq->Prop}{σ:aq}{S row aP:Nat}{a:Addr}{f:Ft}{L:Lf}{g i j:Int}{mem:List UInt8}{aZ:List Wt}
theorem gU.cls(D:gU S row aP σ a f L g i j mem aZ):pp σ (.ref a)=some 739:=by show (match σ a with | some (.inst D _)=>some D | _=>none)=_;exact aa D.lf rfl
theorem gU.no(D:gU S row aP σ a f L g i j mem aZ)(e:dR x (qv f.d g f.m)=none):lP σ (.ref a) x=none:=by show (match σ a with | some (.inst _ fs)=>dR x fs | _=>none)=_;refine aa D.lf ?_;exact e
theorem gU.aI(C:Ctx X)(D:gU S row aP σ a f L g i j mem aZ){m:Addr}{k:Value->Prop}(h:k (.ref m))(hm:po 739 x=some m:=by rfl)(e:dR x (qv f.d g f.m)=none:=by rfl):MethP X σ (.ref a) x k:=⟨_,wT C.ok hm D.cls (D.no e),h⟩
include C
theorem ES(D:gU S row aP σ a f L g i j mem aZ)(h:K (.bool (!L.out)) σ):az X (n+1) (.ref 673) [.ref a] [] K σ :=
 C.call 62 rfl rfl (bX D.lf (v:= .ref f.d) (bX D.lf (v:= .ref f.d) (bX D.dk.d (v:= .bool L.out) h)))
theorem MT(D:gU S row aP σ a f L g i j mem aZ)(hS:S≤1000)(h4:4≤S)(h:K (.n (S - 4)) σ):az X (n+5) (.ref 680) [.ref a] [] K σ :=
 have e:(S:Int) - 2*2=((S - 4:Nat):Int):=(nm h4).symm
 C.call 63 rfl rfl (bX D.lf (v:= .ref f.d) (bX D.lf (v:= .ref f.d) (bX D.lf (v:=dv) (C.call 53 rfl rfl (D.dk.aI C (MK C D.dk D.len hS (Mz C ⟨⟨by decide,by decide⟩,bf.d (λq=>absurd (ao e q) (jU.mpr (eh _))) λJ=>ki (K:=K) e h⟩)))))))
theorem MU(D:gU S row aP σ a f L g i j mem aZ)(hS:S≤1000)(h4:4≤S){s z:Nat}(hs:s+z≤S - 4)(h:K (.n (2+s)) σ):az X (n+6) (.ref 687) [.ref a, .n s, .n z] [] K σ :=
 C.call 64 rfl rfl (D.aI C (MT C D hS h4 (fg (a:=S - 4) (b:=s+z) (λq=>absurd hs (C4.mpr q)) λJ=>bX D.lf (v:=dv) (Mz C h))))
theorem acC(D:gU S row aP σ a f L g i j mem aZ)(hS:S≤1000)(h4:4≤S)(hs:row+aP≤S - 4)(h0:L.out=true->K .none σ)(h1:L.out=false->∀σ',Upd S row aP σ a f σ' L->K (.bytes L.cont) σ') :
  az X (n+7) (.ref 694) [.ref a, .n row, .n (4*aP)] [] K σ:=by
 refine C.call 65 rfl rfl (D.aI C (ES C D (bf.n (bf.n (bf.c h0 λho=> ?_)))))
 have dk:=D.dk
 rw [ho] at dk
 have nt:=MR h4 hs
 have kI:aP≤1000:=ag (lm ..) (ag nt hS)
 have hcl:L.cont.length=4*aP:=ao D.cont (xp (Ay D.len D.wk) nt)
 refine bX D.lf (v:=dv) (Mx C (m:=4*aP) ?_);refine aa (MS ..) (bX D.lf (v:= .ref f.d) (dk.aI C (D.aI C (MU C D hS h4 hs (acs C dk D.len hS D.wk nt λσ' hd hk=> ?_)))))
 have kp:∀{x o},σ x=some o->d9 (oM o) 438=false->σ' x=some o:=λh q=>(hk _ (AC h dk.d q) (sw h)).trans h
 refine aa D.cont (.bytes _ 0 (4*aP) rfl rfl (wY (ag (c8 4 kI) (by decide))) (by show _≤_;refine aa hcl ?_;exact ag (c8 4 kI) (by decide)) ?_);refine aa yL (aa (q8 (bS hcl)) ?_);exact rQ (h1 ho σ' ⟨f,⟨g,i+aP,j,mem,aZ,kp D.lf rfl,⟨by refine aa ho ?_;exact hd,kp dk.b rfl,kp dk.w rfl⟩,⟨kp D.rg.m rfl,kp D.rg.r rfl⟩,D.len,D.wk,D.cont,D.wn,D.nd⟩,λx hx=> .inl hx,λx J hx hn=>hk x (λe=>hx (e▸ .head _)) hn⟩)
theorem acD(D:gU S row aP σ a f L g i j mem aZ)(h:K (.bool (!L.c4)) σ):az X (n+3) (.ref 729) [.ref a, .int 9] [] K σ :=
 C.call 69 rfl rfl (bX D.lf (v:= .ref f.m) (D.rg.aI C (MB C D.rg h)))
end
theorem acE{z:Nat}(h:m=4*z):(((m+3) / 4*4:Nat):Int) - (m:Int)=0:=by refine aa h (aa (MS ..) (aa (uT ..) ?_));exact MA _
section
variable{X:Cx}(C:Ctx X){n:Nat}{K:ab->aq->Prop}{σ:aq}{S row aP:Nat}{a:Addr}{f:Ft}{L:Lf}{g i j:Int}{mem:List UInt8}{aZ:List Wt}
theorem gU.refl(D:gU S row aP σ a f L g i j mem aZ):Upd S row aP σ a f σ L:=⟨f,⟨g,i,j,mem,aZ,D⟩,λJ h=> .inl h,λJ J J J=>rfl⟩
theorem uz{f:Ft}{x:Addr}(h:x∉f.all):x≠f.d/\x≠f.b/\x≠f.w/\x≠f.m/\x≠f.r:=by
 simp only [Ft.all,bq,not_or] at h
 exact ⟨h.1,h.2.1,h.2.2.1,h.2.2.2.1,h.2.2.2.2.1⟩
include C
theorem acF{z:Nat}(ho:oct.length=4*z)(hn:z≤200)(h:K (.bytes oct) σ):az X (n+2) (.ref 652) [.bytes oct,dv] [] K σ:=by
 have hl:oct.length≤1000:=by refine aa ho ?_;exact ag (c8 4 hn) (by decide)
 have e:=acE ho
 refine C.call 60 rfl rfl (rQ (cu rfl (k6 hl) (aci C hl (cu rfl (k6 hl) ?_))));refine (?_:az X (n+1) (.raw (.type "bytes")) [.int ((((oct.length+3) / 4*4:Nat):Int) - (oct.length:Int))] [] _ _);exact aa e (zM (by decide) (by decide) ⟨k6 hl,(congrArg (λo=>K (.bytes o) σ) (iU oct)).mpr h⟩)
theorem acG(D:gU S row aP σ a f L g i j mem aZ)(hS:S≤1000)(h4:4≤S)(hs:row+aP≤S - 4)(acH:L.wn≤900)(ho:oct.length=4*aP)(hm:aP≤100){cy:Int}(ht:L.out=true->cy=0∨cy=9)
  (h0:L.out=true->∀σ',Upd S row aP σ a f σ' {L with c4:=L.c4 || decide (cy=9)}->K (.bool false) σ') (h1:L.out=false->∀σ',Upd S row aP σ a f σ' {L with cont:=oct,wn:=L.wn+aP}->K (.bool true) σ') :
  az X (n+7) (.ref 701) [.ref a, .n row, .bytes oct, .int cy] [] K σ:=by
 refine C.call 66 rfl rfl (D.aI C (ES C D (bf.n (bf.n (bf.c (λeO=>D.aI C (C.call (n:=n+5) 68 rfl rfl ?_)) λeO=> ?_)))))
 ·have h0:=h0 eO
  rcases ht eO with rfl | rfl
  ·rw [decide_eq_false (by decide),acI] at h0
   exact h0 σ D.refl
  ·rw [decide_eq_true rfl,acJ] at h0
   refine bX D.lf (v:= .ref f.m) (D.rg.aI C (MB C D.rg (bf.n (bf.c (λhl=>h0 σ ⟨f,⟨g,i,j,mem,aZ,D.lf,D.dk,ao hl D.rg,D.len,D.wk,D.cont,D.wn,D.nd⟩,λJ h=> .inl h,λJ J J J=>rfl⟩) λhl=> ?_))))
   have rg:=D.rg
   rw [hl] at rg
   exact bX D.lf (v:= .ref f.m) (D.rg.aI C (acl C rg (h0 (σ.set f.r (.list (Av true))) ⟨f,⟨g,i,j,mem,aZ,eI D.lf rg.r,⟨eI D.dk.d rg.r,eI D.dk.b rg.r,(bA D.nd).trans D.dk.w⟩,⟨eI rg.m rg.r,bU⟩,D.len,D.wk,D.cont,D.wn,D.nd⟩,λJ h=> .inl h,λx J hx J=>bA (uz hx).2.2.2.2⟩)))
 ·have dk:=D.dk
  rw [eO] at dk
  have gq:oct.length≤1000:=by refine aa ho ?_;exact ag (c8 4 hm) (by decide)
  have nt:=MR h4 hs
  refine bX D.lf (v:=dv) (acF C ho (ag hm (by decide)) (bX D.lf (v:= .ref f.d) (dk.aI C (D.aI C (cu rfl (k6 gq) (bX D.lf (v:=dv) ⟨⟨by decide,by decide⟩, ?_⟩))))));refine (?_:az X (n+6) (.ref 687) [.ref a, .n row, .n (oct.length / 4)] [] _ _);refine aa (show oct.length / 4=aP by rw [ho];exact ML _ (by decide)) ?_;refine MU C D hS h4 hs (acw C dk D.len hS (by refine aa D.wn ?_;exact ag acH (by decide)) ho nt (h1 eO _ ⟨f,⟨g,i,j+aP,mem,aZ++jd (2+row) oct aP,eI (eI D.lf dk.w) (eI dk.d dk.w),⟨by refine aa eO ?_;exact bU,eI (eI dk.b dk.w) (eI dk.d dk.w),eI bU (eI dk.d dk.w)⟩,⟨eI (eI D.rg.m dk.w) (eI dk.d dk.w),eI ((bA (iM D.nd)).trans D.rg.r) (eI dk.d dk.w)⟩,
   D.len,λx hx=>(jg.mp hx).elim (D.wk x) (acB ho nt x), ?_, ?_,D.nd⟩,λx hx=> .inl hx,λx hx og hn=>(bA (uz og).1).trans (bA (uz og).2.2.1)⟩))
  ·have e:jb mem (aZ++jd (2+row) oct aP)=jb (jb mem aZ) (jd (2+row) oct aP):=rM
   exact aa e (aa ((acA (s:=2+row) (m:=jb mem aZ) (Ay D.len D.wk) ho nt (cb aP)).2) (aa (q8 (bS ho)) rfl))
  ·refine (?_:(aZ++jd (2+row) oct aP).length=L.wn+aP);refine aa de (aa D.wn ?_);rewrite [jd];exact aa (aC ..) (aa fh rfl)
theorem acK(D:gU S row aP σ a f L g i j mem aZ)(hS:S≤1000)(h:∀σ',Upd S row aP σ a f σ' (if L.out then L else {L with wn:=0})->K .none σ'):az X (n+4) (.ref 708) [.ref a] [] K σ:=by
 refine C.call 67 rfl rfl (D.aI C (ES C D (bf.n (bf.c (λeO=> ?_) λeO=> ?_))))
 ·rw [eO,if_pos rfl] at h;exact h σ D.refl
 ·have dk:=D.dk
  rw [eO] at dk
  rw [eO,if_neg (by decide)] at h
  refine bX D.lf (v:= .ref f.d) (dk.aI C (acy C dk D.len hS D.wk λw' iR=> ?_))
  have st:∀{x:Addr} {o o1 o2 o3:d8},σ x=some o->d9 (oM o) 1=false->d9 (oM o) 438=false->(((σ.set f.b o1).set w' o2).set f.d o3) x=some o:=λe q q' =>
   (bA (AC e dk.d q')).trans (MO (eI e dk.b q) ((bA λe=>nn (iR.symm.trans ((congrArg σ e).trans dk.b))).trans iR))
  have nw:∀{x:Addr} {o:d8},σ x=some o->x≠w':=λe q=>nn (iR.symm.trans ((congrArg σ q.symm).trans e))
  refine h _ ⟨{f with w:=w'},⟨g,i,j,jb mem aZ,[],st D.lf rfl rfl,⟨bU,(bA (AC dk.b dk.d)).trans ((bA (nw dk.b)).trans bU),(bA (nw dk.d).symm).trans bU⟩,⟨st D.rg.m rfl rfl,st D.rg.r rfl rfl⟩,Ay D.len D.wk,λx=>nofun,D.cont,rfl,λe=>nw D.rg.r e.symm⟩,
   λx hx=> ?_,λx hx og hn=>(bA (uz og).1).trans ((bA λq=>hn ((congrArg σ q).trans iR)).trans (bA (uz og).2.1))⟩
  by_cases q:x=w'
  ·exact .inr ((congrArg σ q).trans iR)
  ·refine .inl ?_;simp only [Ft.all,bq,dJ,or_false,q,false_or] at hx ⊢
   exact hx.elim .inl λh=>h.elim (λh=> .inr (.inl h)) λh=> .inr (.inr (.inr h))
end
noncomputable def foot(a:Addr)(f:Ft):List Addr:=a::f.all
noncomputable def lE:Ft:=⟨0,0,0,0,0⟩
noncomputable def ax:Lf:=⟨false,false,[],0⟩
structure iA(S:Nat)(ws:List (Nat×Nat))(ls:List Addr):Prop where
 S1:S≤1000
 S4:4≤S
 wl:ws.length=ls.length
 w:∀k,k<ls.length->(ws.getD k (0,0)).1+(ws.getD k (0,0)).2≤S - 4/\(ws.getD k (0,0)).2≤100
 gF:ls.length≤10
structure lF(S:Nat)(ws:List (Nat×Nat))(ls:List Addr)(σ:aq)(fs:List Ft)(Ls:List Lf):Prop where
 fl:fs.length=ls.length
 Ll:Ls.length=ls.length
 at_:∀k,k<ls.length->mD S (ws.getD k (0,0)).1 (ws.getD k (0,0)).2 σ (ls.getD k 0) (fs.getD k lE) (Ls.getD k ax)
 ap:∀k k',k<ls.length->k'<ls.length->k≠k'->∀x,x∈foot (ls.getD k 0) (fs.getD k lE)->x∉foot (ls.getD k' 0) (fs.getD k' lE)
def bl(S:Nat)(ws:List (Nat×Nat))(ls:List Addr)(σ:aq)(Ls:List Lf):Prop:=∃fs,lF S ws ls σ fs Ls
theorem bl.len{S:Nat}(G:bl S ws ls σ Ls):Ls.length=ls.length:=G.elim λJ G=>G.Ll
section
variable{S row aP:Nat}{σ σ':aq}{a:Addr}{f:Ft}{L L':Lf}{ws:List (Nat×Nat)}{ls:List Addr}{Ls:List Lf}{fs:List Ft}
theorem mD.keep(h:mD S row aP σ a f L)(hk:∀x∈foot a f,σ' x=σ x):mD S row aP σ' a f L :=
 let ⟨g,i,j,mem,aZ,D⟩:=h
 ⟨g,i,j,mem,aZ,(hk _ (.head _)).trans D.lf,⟨(hk _ (.tail _ (.head _))).trans D.dk.d,(hk _ (.tail _ (.tail _ (.head _)))).trans D.dk.b,(hk _ (.tail _ (.tail _ (.tail _ (.head _))))).trans D.dk.w⟩,
  ⟨(hk _ (.tail _ (.tail _ (.tail _ (.tail _ (.head _)))))).trans D.rg.m,(hk _ (.tail _ (.tail _ (.tail _ (.tail _ (.tail _ (.head _))))))).trans D.rg.r⟩,D.len,D.wk,D.cont,D.wn,D.nd⟩
theorem mD.ux(h:mD S row aP σ a f L):∀x∈foot a f,σ x≠none:=by
 obtain ⟨g,i,j,mem,aZ,D⟩:=h;exact mr.mpr ⟨sw D.lf,mr.mpr ⟨sw D.dk.d,mr.mpr ⟨sw D.dk.b,mr.mpr ⟨sw D.dk.w,mr.mpr ⟨sw D.rg.m,mr.mpr ⟨sw D.rg.r,λJ=>nofun⟩⟩⟩⟩⟩⟩
theorem oN{k':Nat}{x d:α}:(l.set k x).getD k' d=if k=k'/\k'<l.length then x else l.getD k' d:=by
 unfold i9;rw [acL]
 by_cases h:k=k'
 ·subst h
  by_cases h2:k<l.length
  ·simp [h2]
  ·simp [h2,ir (fA h2)]
 ·simp [h]
theorem lF.upd(G:lF S ws ls σ fs Ls)(hk:k<ls.length)(U:Upd S (ws.getD k (0,0)).1 (ws.getD k (0,0)).2 σ (ls.getD k 0) (fs.getD k lE) σ' L'):bl S ws ls σ' (Ls.set k L'):=by
 obtain ⟨f',acM,hn,Cb⟩:=U
 have ET:∀j,j<ls.length->j≠k->∀x∈foot (ls.getD j 0) (fs.getD j lE),σ' x=σ x/\x∉foot (ls.getD k 0) f':=by
  intro j hj hjk x hx
  have h1:=G.ap j k hj hk hjk x hx
  have h2:=(G.at_ j hj).ux x hx
  have uA:=h1
  unfold foot at uA
  rw [bq,not_or] at uA
  refine ⟨Cb x uA.1 uA.2 h2,λh=> ?_⟩;unfold foot at h
  rcases bq.mp h with h | h
  ·exact uA.1 h
  ·rcases hn x h with h | h
   ·exact uA.2 h
   ·exact h2 h
 refine ⟨fs.set k f',aa kl G.fl,aa kl G.Ll,λj hj=> ?_,λi j hi hj du x hx=> ?_⟩
 ·refine aH oN oN ?_
  by_cases q:k=j
  ·subst q;refine aa (if_pos ⟨rfl,by rw [G.fl];exact hj⟩) (aa (if_pos ⟨rfl,by rw [G.Ll];exact hj⟩) ?_);exact acM
  ·exact aH (if_neg (λh=>q h.1)) (if_neg (λh=>q h.1)) ((G.at_ j hj).keep λx hx=>(ET j hj (iM q) x hx).1)
 ·rw [oN] at hx ⊢
  by_cases q:k=i
  ·subst q;rw [if_pos ⟨rfl,aa G.fl hi⟩] at hx
   exact aa (if_neg (λh=>du h.1)) (λh=>(ET j hj (iM du) x h).2 hx)
  ·rw [if_neg (λh=>q h.1)] at hx
   by_cases q2:k=j
   ·subst q2;exact aa (if_pos ⟨rfl,by rw [G.fl];exact hj⟩) ((ET i hi (iM q) x hx).2)
   ·exact aa (if_neg (λh=>q2 h.1)) (G.ap i j hi hj du x hx)
end
def uB(ws:List (Nat×Nat))(ls:List Addr)(c:bG):Prop:=c.1<ls.length/\ws.getD c.1 (0,0)=(c.2.1,c.2.2.1)
noncomputable def fJ:Option (List UInt8)->ab
 | none=> .none
 | some b=> .bytes b
noncomputable def dX(L:Lf):Option (List UInt8):=if L.out then none else some L.cont
noncomputable def bp(Ls:List Lf)(af:List bG):List (Option (List UInt8)):=af.map λc=>dX (Ls.getD c.1 ax)
def dg(Ls:List Lf)(n:Nat):Prop:=∀k,(Ls.getD k ax).wn≤n
theorem set_same:Ls.set k (Ls.getD k ax)=Ls:=by
 apply wP
 intro j;rw [acL]
 by_cases h:k=j
 ·subst h
  by_cases h2:k<Ls.length
  ·simp [h2,i9,bE h2]
  ·simp [h2,ir (fA h2)]
 ·simp [h]
theorem sx(hk:k<ls.length):(ls.map ab.ref)[k]? =some (.ref (ls.getD k 0)):=by
 rw [cW,bE hk,cZ hk];rfl
theorem MV(z:Nat):((z:Nat):Int)*4=((4*z:Nat):Int):=sn _ 4
section
variable{X:Cx}(C:Ctx X){n:Nat}{K:ab->aq->Prop}{σ:aq}{S:Nat}{ws:List (Nat×Nat)}{ls:List Addr}{Ls:List Lf}{p:Nat}
theorem iA.uC(T:iA S ws ls)(h:k<ls.length):k≤1000:=ag (bO h) (ag T.gF (nb rfl))
include C
theorem xq(G:bl S ws ls σ Ls)(hk:k<ls.length){m:Addr}(hm:po 739 x=some m:=by rfl)(e:∀d g m,dR x (qv d g m)=none:=by intros;rfl):vm X σ (.ref (ls.getD k 0)) x (.ref m) :=
 iE G λJ G=>let ⟨_,_,_,_,_,D⟩:=G.at_ k hk;wT C.ok hm D.cls (D.no (e _ _ _))
theorem MW(T:iA S ws ls)(G:bl S ws ls σ Ls){row:Nat}(hk:k<ls.length)(hw:ws.getD k (0,0)=(row,aP)){z:Int}(hz:z=((4*aP:Nat):Int))
  (h:∀σ',bl S ws ls σ' Ls->K (fJ (dX (Ls.getD k ax))) σ'):az X (n+7) (.raw (.ref 694)) [.ref (ls.getD k 0), .n row, .int z] [] K σ:=by
 subst hz;obtain ⟨fs,G⟩:=G;obtain ⟨g,i,j,mem,aZ,D⟩:=G.at_ k hk
 have xr:=T.w k hk
 rw [hw] at xr D
 refine acC C D T.S1 T.S4 xr.1 (λho=> ?_) λho aQ U=> ?_
 ·have:=h σ ⟨fs,G⟩
  unfold dX at this
  rw [ho] at this
  exact this
 ·have:=G.upd hk (σ':=aQ) (L':=Ls.getD k ax) (aa hw U)
  rw [set_same] at this
  have:=h aQ this
  unfold dX at this
  rw [ho] at this
  exact this
theorem EU(T:iA S ws ls)(G:bl S ws ls σ Ls)(hc:∀c∈af,uB ws ls c)(hl:af.length≤10)(h:∀σ',bl S ws ls σ' Ls->K (.list ((bp Ls af).map fJ)) σ') :
  az X (n+8) (.ref 288) [b0 ls p,jG af] [] K σ:=by
 let S':aq->St:=λσ=>{m:= [some (b0 ls p),some (jG af),some (.int 4),none,none],fz:= [0,1,2],σ:=σ}
 refine C.call 32 rfl rfl (Ee [false,false,false,true,true] af kJ S' (λi acc σ'=>acc=(af.take i).map (λc=>fJ (dX (Ls.getD c.1 ax)))/\bl S ws ls σ' Ls) σ ⟨rfl,G⟩ (ag hl (nb rfl)) (λJ=>dW) (λi c acc σ' K' e P k=> ?_)
  λacc σ' P=> ?_)
 ·obtain ⟨hk,hw⟩:=hc c (cr e)
  have hm:=(T.w c.1 hk).2
  rw [hw] at hm
  exact oB (sx hk) (T.uC hk) ⟨_,xq C P.2 hk,sm (ag hm (nb rfl)),MW C T P.2 hk hw (MV _) λaQ G2=>k (some _) aQ _ ⟨by refine aa ow (aa e (aa gR (ao P.1 ?_)));rfl,G2⟩ rfl⟩
 ·have e:=P.1
  rw [kD] at e
  refine j0 e (by refine aa (aC ..) ?_;exact ag hl (nb rfl)) ?_
  have:=h σ' P.2
  rw [bp,dj] at this
  exact this
end
section
variable {cy:Int}
noncomputable def eQ(cy:Int)(L:Lf)(part:List UInt8)(aP:Nat):Lf:=if L.out then {L with c4:=L.c4 || decide (cy=9)} else {L with cont:=part,wn:=L.wn+aP}
noncomputable abbrev CP:=bG×List UInt8
noncomputable def lG(cy:Int)(Ls:List Lf)(x:CP):List Lf:=Ls.set x.1.1 (eQ cy (Ls.getD x.1.1 ax) x.2 x.1.2.2.1)
noncomputable def iB(cy:Int)(zs:List CP)(Ls:List Lf):List Lf:=zs.foldl (lG cy) Ls
noncomputable def oO(Ls:List Lf)(zs:List CP):Nat:=zs.foldl (λn x=>if (Ls.getD x.1.1 ax).out then n+1 else n) 0
noncomputable def oP(which:List Nat)(Ls:List Lf)(x:CP):List Lf:=if x.1.1∈which then lG 0 Ls x else Ls
noncomputable def kK(which:List Nat)(zs:List CP)(Ls:List Lf):List Lf:=zs.foldl (oP which) Ls
noncomputable def oQ(Ls:List Lf)(which:List Nat)(zs:List CP):Nat:=zs.foldl (λn x=>if x.1.1∈which/\(Ls.getD x.1.1 ax).out=false then n+1 else n) 0
def qx(Ls dM:List Lf):Prop:=dM.length=Ls.length/\∀k,(dM.getD k ax).out=(Ls.getD k ax).out
theorem acN{x:CP}:qx Ls (lG cy Ls x):=⟨kl ..,λk=>by
 unfold lG;refine aa oN ?_
 split
 ·rename_i h
  refine ao h.1 ?_;unfold eQ;split<;>simp_all
 ·rfl⟩
theorem qx.trans{A B D:List Lf}(h:qx A B)(h':qx B D):qx A D:=⟨h'.1.trans h.1,λk=>(h'.2 k).trans (h.2 k)⟩
theorem AD{x:CP}{n:Nat}(h:dg Ls n)(hx:x.1.2.2.1≤10):dg (lG cy Ls x) (n+10):=λk=>by
 unfold lG;refine aa oN ?_
 have:=h k
 split
 ·rename_i q
  refine aa q.1 ?_;unfold eQ;split
  ·show (Ls.getD k ax).wn≤_;exact ag this (b6 ..)
  ·show (Ls.getD k ax).wn+x.1.2.2.1≤_;exact fL this hx
 ·exact ag this (b6 ..)
def EV(ws:List (Nat×Nat))(ls:List Addr)(zs:List CP):Prop:=∀x∈zs,uB ws ls x.1/\x.2.length=4*x.1.2.2.1/\x.1.2.2.1≤10
structure oS(S:Nat)(ws:List (Nat×Nat))(ls:List Addr)(Ls L:List Lf)(b:Nat)(σ:aq):Prop where
 g:bl S ws ls σ L
 so:qx Ls L
 fw:dg L b
theorem qx.refl:qx Ls Ls:=⟨rfl,λJ=>rfl⟩
theorem oS.wr{S:Nat}{L:List Lf}{b:Nat}{σ':aq}{x:CP}(P:oS S ws ls Ls L b σ)(h:bl S ws ls σ' (lG cy L x))(hm:x.1.2.2.1≤10):oS S ws ls Ls (lG cy L x) (b+10) σ':=⟨h,P.so.trans acN,AD P.fw hm⟩
theorem oS.up{S:Nat}{L:List Lf}{b:Nat}(P:oS S ws ls Ls L b σ):oS S ws ls Ls L (b+10) σ:=⟨P.g,P.so,λk=>ag (P.fw k) (b6 ..)⟩
theorem EW{b i:Nat}(h:i<10)(hb:b≤600+10*i):b≤900:=ag hb (ag (lL (c8 10 (bO h)) _) (nb rfl))
section
variable{X:Cx}(C:Ctx X){n:Nat}{K:ab->aq->Prop}{σ:aq}{S:Nat}{ws:List (Nat×Nat)}{ls:List Addr}{Ls:List Lf}{p:Nat}
include C
theorem gm{f:Addr}{k:Value->Prop}(h:k (.ref f))(hm:po 338 x=some f:=by rfl)(e:dR x (Mv ls p)=none:=by rfl):MethP X σ (b0 ls p) x k:=⟨_,wT C.ok hm rfl e,h⟩
theorem EX(T:iA S ws ls)(G:bl S ws ls σ Ls){x:CP}(hf:(Ls.getD x.1.1 ax).wn≤900)(hx:uB ws ls x.1/\x.2.length=4*x.1.2.2.1/\x.1.2.2.1≤10)(ht:(Ls.getD x.1.1 ax).out=true->cy=0∨cy=9)
  (h:∀σ',bl S ws ls σ' (lG cy Ls x)->K (.bool (!(Ls.getD x.1.1 ax).out)) σ'):az X (n+7) (.raw (.ref 701)) [.ref (ls.getD x.1.1 0), .n x.1.2.1, .bytes x.2, .int cy] [] K σ:=by
 obtain ⟨fs,G⟩:=G;obtain ⟨⟨hk,hw⟩,hl,hm⟩:=hx;obtain ⟨g,i,j,mem,aZ,D⟩:=G.at_ x.1.1 hk
 have xr:=T.w x.1.1 hk
 rw [hw] at xr D
 have up:∀{σ' L'},eQ cy (Ls.getD x.1.1 ax) x.2 x.1.2.2.1=L'->Upd S x.1.2.1 x.1.2.2.1 σ (ls.getD x.1.1 0) (fs.getD x.1.1 lE) σ' L'->K (.bool (!(Ls.getD x.1.1 ax).out)) σ':=λ{σ' L'} e U=>by
  subst e;exact h σ' (G.upd hk (aa hw U))
 refine acG C D T.S1 T.S4 xr.1 hf hl (ag hm (nb rfl)) ht (λho σ' U=> ?_) λho σ' U=> ?_
 ·have:=up (if_pos ho) U
  rw [ho] at this
  exact this
 ·have:=up (if_neg (by refine aa ho ?_;exact ka)) U
  rw [ho] at this
  exact this
theorem MX(T:iA S ws ls)(G:bl S ws ls σ Ls)(hf:dg Ls 600){s:Nat}(ho:oct.length≤1000)(h1:1≤p)(h3:p≤3)(h2:p<ls.length)(ec:aW s oct.length ls.length p=af)(hc:oJ af)(hcl:af.length≤10)
  (hz:EV ws ls (aA af (aF oct af p)))  (ht:∀k,(Ls.getD k ax).out=true->cy=0∨cy=9)
  (h:∀σ',bl S ws ls σ' (iB cy (aA af (aF oct af p)) Ls)->K (.bool (decide (oO Ls (aA af (aF oct af p))≤p))) σ'):az X (n+8) (.ref 283) [b0 ls p, .n s, .bytes oct, .int cy] [] K σ:=by
 refine C.call 31 rfl rfl (gm C (cu rfl (k6 ho) (Au C ho h1 h3 h2 T.gF ?_)));refine aa ec (gm C (EJ C ho hc hcl (eB h3 (nb rfl)) ?_))
 have nv:(aA af (aF oct af p)).length≤10:=nr hcl
 let S':aq×Nat->St:=λx=>{m:= [some (b0 ls p),some (.n s),some (.bytes oct),some (.int cy),some (jG af),some (.n x.2),none,none],fz:= [],σ:=x.1}
 refine loop [false,false,false,false,false,false,true,true] (aA af (aF oct af p)) (λx=> .tuple [kJ x.1, .bytes x.2]) S' (λi x=>x.2=oO Ls ((aA af (aF oct af p)).take i)/\oS S ws ls Ls (iB cy ((aA af (aF oct af p)).take i) Ls) (600+10*i) x.1) (σ,0) ⟨rfl,G, .refl,hf⟩ (λJ J J=>dW)
  (λi x y K' e P k J=> ?_) (λy P=> ?_) (zip_map kJ .bytes af _)
 ·have hx:=hz x (cr e)
  have es:iB cy ((aA af (aF oct af p)).take (i+1)) Ls=lG cy (iB cy ((aA af (aF oct af p)).take i) Ls) x:=uh _ _ e
  have el:oO Ls ((aA af (aF oct af p)).take (i+1))=if (Ls.getD x.1.1 ax).out then oO Ls ((aA af (aF oct af p)).take i)+1 else oO Ls ((aA af (aF oct af p)).take i):=uh _ _ e
  rw [es,el] at k
  exact oB (sx hx.1.1) (T.uC hx.1.1) ⟨_,xq C P.2.g hx.1.1,EX C T P.2.g (EW (et (dr.mp e).1 nv) (P.2.fw _)) hx (λq=>ht x.1.1 (ao (P.2.so.2 _) q)) λaQ G2=>bf.n (bf.n (bf.c
   (λo=>k (aQ,y.2+1) _ ⟨aa (if_pos (ao (P.2.so.2 _) o)) (ao P.1 rfl),P.2.wr G2 hx.2.2⟩ rfl) λo=>k (aQ,y.2) _ ⟨aa (if_neg (by rw [<-P.2.so.2,o];exact ka)) (ao P.1 rfl),P.2.wr G2 hx.2.2⟩ rfl))⟩
 ·obtain ⟨e,P⟩:=P;rw [kD] at e P
  refine (congrArg (λb=>K (.bool b) y.1) ?_).mp (h y.1 P.g);exact ao e (decide_eq_decide.mpr dT.symm)
theorem MY(T:iA S ws ls)(G:bl S ws ls σ Ls)(hf:dg Ls 600){s:Nat}(ho:oct.length≤1000)(h1:1≤p)(h3:p≤3)(h2:p<ls.length)(ec:aW s oct.length ls.length p=af)(hc:oJ af)(hcl:af.length≤10)
  (hz:EV ws ls (aA af (aF oct af p))) {which:List Nat}
  (h:∀σ',bl S ws ls σ' (kK which (aA af (aF oct af p)) Ls)->K (.n (oQ Ls which (aA af (aF oct af p)))) σ'):az X (n+8) (.ref 321) [b0 ls p, .n s, .bytes oct,aJ which] [] K σ:=by
 refine C.call 37 rfl rfl (gm C (cu rfl (k6 ho) (Au C ho h1 h3 h2 T.gF ?_)));refine aa ec (gm C (EJ C ho hc hcl (eB h3 (nb rfl)) ?_))
 have nv:(aA af (aF oct af p)).length≤10:=nr hcl
 let S':aq×Int->St:=λx=>{m:= [some (b0 ls p),some (.n s),some (.bytes oct),some (aJ which),some (jG af),some (.int x.2),none,none],fz:= [],σ:=x.1}
 refine loop [false,false,false,false,false,false,true,true] (aA af (aF oct af p)) (λx=> .tuple [kJ x.1, .bytes x.2]) S' (λi x=>x.2=(oQ Ls which ((aA af (aF oct af p)).take i):Nat)/\oS S ws ls Ls (kK which ((aA af (aF oct af p)).take i) Ls) (600+10*i) x.1) (σ,0) ⟨rfl,G, .refl,hf⟩ (λJ J J=>dW)
  (λi x y K' e P k J=> ?_) (λy P=> ?_) (zip_map kJ .bytes af _)
 ·have hx:=hz x (cr e)
  have es:kK which ((aA af (aF oct af p)).take (i+1)) Ls=oP which (kK which ((aA af (aF oct af p)).take i) Ls) x:=uh _ _ e
  have el:oQ Ls which ((aA af (aF oct af p)).take (i+1))=if x.1.1∈which/\(Ls.getD x.1.1 ax).out=false then oQ Ls which ((aA af (aF oct af p)).take i)+1 else oQ Ls which ((aA af (aF oct af p)).take i):=uh _ _ e
  rw [es,el] at k
  refine np (l:=which) rfl (λqw=> ?_) λqw=>k y _ ⟨aa (if_neg (λh=>qw h.1)) P.1,by rewrite [oP];refine aa (if_neg qw) ?_;exact P.2.up⟩ rfl;rw [oP,if_pos qw] at k
  refine oB (sx hx.1.1) (T.uC hx.1.1) ⟨_,xq C P.2.g hx.1.1,EX C T P.2.g (EW (et (dr.mp e).1 nv) (P.2.fw _)) hx (λJ=> .inl rfl) λaQ G2=>KY (k (aQ,_) _ ⟨?_,P.2.wr G2 hx.2.2⟩ rfl)⟩;refine aH (P.2.so.2 ..) P.1 ?_;cases q:(Ls.getD x.1.1 ax).out with
  | true=>exact (Tf _).trans (congrArg kX (if_neg λh=>AE h.2).symm)
  | false=>exact congrArg kX (if_pos ⟨qw,rfl⟩).symm
 ·obtain ⟨e,P⟩:=P;rw [kD] at e P
  exact ki (K:=K) e (h y.1 P.g)
end
end
noncomputable def bz(l:List Nat):List Nat:=(jA (l.map λ(x:Nat)=>(x:Int))).map MZ
theorem uD(l:List Nat):jA (l.map λ(x:Nat)=>(x:Int))=(bz l).map λ(x:Nat)=>(x:Int):=by
 unfold bz;refine aa dj ?_
 conv=>lhs;rw [<-K3 (jA _)]
 refine fV λx hx=> ?_;obtain ⟨y,_,rfl⟩:=bF.mp ((rS _).mem_iff.mp hx)
 rfl
theorem xt(l:List Nat):(bz l).length=l.length:=by rewrite [bz];exact aa (aC ..) (aa ((rS _).length_eq) (aa (aC ..) rfl))
theorem acO{γ:Type}(f:α->ab)(g:β->ab)(h:γ->ab)(a:List α):∀(b:List β) (c:List γ),tw (a.map f) (b.map g) (c.map h)=(aA a (aA b c)).map λx=>ab.tuple [f x.1,g x.2.1,h x.2.2]:=by
 induction a with
 | nil=>intro b c;rcases b with _ | _<;>rcases c with _ | _<;>rfl
 | cons x a ih =>
  intro b c;rcases b with _ | ⟨y,b⟩
  ·rcases c with _ | _<;>rfl
  rcases c with _ | ⟨z,c⟩
  ·rfl
  ·exact congrArg (ug _) (ih b c)
noncomputable def uE(x:bG×Option (List UInt8)×List UInt8):Option Nat:=match x.2.1 with
 | none=>none
 | some h=>if h=x.2.2 then none else some x.1.1
noncomputable def mE(af:List bG)(hs:List (Option (List UInt8)))(aV:List (List UInt8)):List Nat:=(aA af (aA hs aV)).filterMap uE
noncomputable def gV(hs:List (Option (List UInt8))):List Nat:=hs.zipIdx.filterMap λx=>if x.1.isSome then none else some x.2
noncomputable def f8(af:List bG)(hs:List (Option (List UInt8))):List (List UInt8):=(aA af hs).map λx=>x.2.getD (cf (x.1.2.2.1*4) 0)
noncomputable def xu(n p:Nat)(ar:List Nat):bj:=oG (n - p) (cL p (bz ar)) ((fj p ar).take (cL p (bz ar)).length)
noncomputable def nx(n p:Nat)(ar:List Nat):bj:=(qm (xu n p ar)).getD []
noncomputable def oU(held:List (List UInt8))(p:Nat)(ar:List Nat):List (List UInt8):=Ah held p ar (bz ar) (nx held.length p ar)
structure EY(n p:Nat)(ar:List Nat):Prop where
 gF:ar.length≤10
 pl:∀q∈cL p (bz ar),q<n - p
 acP:(cL p (bz ar)).length≤6
 rk:(cL p (bz ar)).length≤(fj p ar).length
 inv:qm (xu n p ar)=some (nx n p ar)
 sq:Sq (cL p (bz ar)).length (nx n p ar)
def Good(held:List (List UInt8))(p size:Nat)(ak:List UInt8)(ar:List Nat):Prop:=(oU held p ar).flatten.take size=ak
theorem acQ(f:α->Option β)(l:List α):∀z:List β,l.foldl (λacc x=>acc++(f x).toList) z=z++l.filterMap f:=by
 induction l with
 | nil=>exact λz=>(iU z).symm
 | cons x l ih =>
  intro z;refine aa mq (aa (ih ..) (aa lz (aa (lb ..) ?_)));cases f x<;>rfl
theorem acR(o:Option α):o.toList.length≤1:=by cases o;exact da 1;exact cb 1
section
variable{X:Cx}(C:Ctx X){n:Nat}{K:ab->aq->Prop}{σ:aq}{S:Nat}{ws:List (Nat×Nat)}{ls:List Addr}{Ls:List Lf}{p:Nat}
include C
theorem acS(ho:oct.length≤1000)(hc:oJ af)(hcl:af.length≤10)(hp:p<10)(h:K (aJ (bz (mE af hs (aF oct af p)))) σ) :
  az X (n+5) (.ref 314) [b0 ls p,jG af, .list (hs.map fJ), .bytes oct] [] K σ:=by
 refine az.out (C.call 36 rfl rfl (.own lk λa ha=>gm C (EJ C ho hc hcl hp ?_)));replace ha:σ a=none:=ha
 have nv:(aA af (aA hs (aF oct af p))).length≤10:=nr hcl
 let S':List Nat->St:=λacc=>{m:= [some (b0 ls p),some (jG af),some (.list (hs.map fJ)),some (.bytes oct),some (.ref a),none,none,none],fz:= [],σ:=σ.set a (.list (acc.map .n))}
 refine jY [false,false,false,false,false,true,true,true] (aA af (aA hs (aF oct af p))) (λx=> .tuple [kJ x.1,fJ x.2.1, .bytes x.2.2]) (λacc x=>acc++(uE x).toList) S' (λi acc=>acc.length≤i) [] (cb _) (λi x acc J h=>aa de (fL h (acR _))) (λJ=>dW)
  (λi x acc K' e i0 k J=> ?_) (λhl=>xi (oA bU) (uD _) (ag (ag hl nv) (nb rfl)) (LL (my ha) (aa (acQ ..) h))) (acO kJ fJ .bytes af hs _)
 have i0:=ag i0 (ag (bO (dr.mp e).1) nv)
 obtain ⟨c,h0,w⟩:=x;cases h0 with
 | none=>exact k acc _ (iU acc).symm rfl
 | some h0=>exact bf.n (bf.d (λq=>k acc _ (aa (show uE (c,some h0,w)=none from if_pos q) ((iU acc).symm)) rfl) λq=>⟨_,oy bU,app (f:= .n) (x:=c.1) rfl (ag i0 (nb rfl)) (k (acc++ [c.1]) _ (aa (show uE (c,some h0,w)=some c.1 from if_neg q) rfl) rfl)⟩)
theorem acT{size:Nat}{r:List (List Nat)}(ho:ak.length≤1000)(bJ:size≤1000)(hc:oJ af)(hcl:af.length≤9)(dB:p≤3)(gW:p≤af.length)(hm:af.length - p≤6)(xj:hs.length=af.length)
  (AF:Short (f8 af hs)) (iZ:∀ar,(oU (f8 af hs) p ar).flatten.length≤100000) (hr:gk af.length (gV hs) p 100 (jD (gV hs) p) 0=some r) (gD:r.length≤1000) (hd:∀ar∈r,EY af.length p ar)
  (h1:(∃ar∈r,Good (f8 af hs) p size ak ar)->K (.tuple [.bytes ak,aJ (bz (mE af hs (aF ak af p)))]) σ) (h0:(∀ar∈r,¬ Good (f8 af hs) p size ak ar)->K (.tuple [.none, .list []]) σ) :
  az X (n+8) (.ref 307) [b0 ls p,jG af, .list (hs.map fJ), .n size, .lam ak] [] K σ:=by
 have EZ:af.length≤10:=mi hcl
 have zc:(gV hs).length≤9:=ag (tN _ _) (by refine aa EG (aa xj ?_);exact hcl)
 have nv:(f8 af hs).length=af.length:=by rewrite [f8];exact aa (aC ..) (aa rT (aa xj (aa (rA ..) rfl)))
 let S':Unit->St:=λJ=>{m:= [some (b0 ls p),some (jG af),some (.list (hs.map fJ)),some (.n size),some (.lam ak),some (aJ (gV hs)),some (jB (f8 af hs)),none,none],fz:= [],σ:=σ}
 refine C.call 35 rfl rfl (qe [false,false,false,false,false,false,false,false,false,true,true,true] hs.zipIdx (λx=> .tuple [.n x.2,fJ x.1]) (λx=>if x.1.isSome then none else some (.n x.2)) (by refine aa EG (aa xj ?_);exact ag hcl (nb rfl)) (λx J K' k=> ?_)
  (j0 (ui hs.zipIdx (λx=>x.1.isSome=true) (λx=>x.2) ab.n) (by refine aa (aC ..) ?_;exact ag zc (nb rfl)) (fe [false,false,false,false,false,false,false,false,false,true,true,true] (aA af hs) (λx=> .tuple [kJ x.1,fJ x.2]) (λx=> .bytes (x.2.getD (cf (x.1.2.2.1*4) 0))) (ag (nr hcl) (nb rfl)) (λx hx K' k=> ?_)
   (nq (ag (nr hcl) (nb rfl)) (cu (k:=af.length) (congrArg some (aC _)) (ag hcl (nb rfl)) (aas C hr gD EZ (ag dB (nb rfl)) (mi zc)
    (loop [false,false,false,false,false,false,false,true,true] r lA S' (λi J=>∀ar∈r.take i,¬ Good (f8 af hs) p size ak ar) () (λJ=>nofun) (λJ J J=>dW) (λi ar J K' ex f6 k E0=> ?_) λJ f6=> .fz lk (h0 (by rw [kD] at f6;exact f6)))))) (zip_map kJ fJ af hs))) (Ek fJ hs 0))
 ·obtain ⟨h0,j⟩:=x;cases h0 with
  | none=>exact k _ _ rfl rfl
  | some h0=>exact k _ _ rfl rfl
 ·obtain ⟨c,h0⟩:=x
  have xv:=(hc c (iz hx).1).1
  cases h0 with
  | none=>exact ⟨sm (ag xv (nb rfl)),zM (i:=((c.2.2.1*4:Nat):Int)) (eh _) (dT.mpr (ag (uU 4 xv) (nb rfl))) (k _ _ rfl rfl)⟩
  | some h0=>exact k _ _ rfl rfl
 ·have M0:=cr ex
  have D:=hd ar M0
  rw [<-nv] at D gW hm EZ
  refine abO C (sl:=bz ar) (inv:=nx (f8 af hs).length p ar) AF EZ dB gW hm D.gF (uD ar) D.pl D.acP D.rk D.inv D.sq (Me C (ag (iZ ar) (nb rfl)) bJ (L1 C.ok (bf.d (λq=>gm C (acS C (aa iX (ag (kB ..) bJ)) hc (mi hcl) (eB dB (nb rfl)) (E0 _ _ ?_))) λq=>k () _ (λx hx=> ?_) rfl)))
  ·have:=h1 ⟨ar,M0,q⟩
   rw [<-q] at this
   exact this
  ·rw [ow,ex] at hx
   exact (jg.mp hx).elim (f6 x) λhx=>dL.mp hx▸q
end
noncomputable def kL(n:Nat)(cP:List Nat)(p:Nat):List (List Nat):=(gk n cP p 100 (jD cP p) 0).getD []
structure ny(S:Nat)(ws:List (Nat×Nat))(ls:List Addr)(p s size:Nat)(af:List bG):Prop where
 T:iA S ws ls
 h1:1≤p
 h3:p≤3
 h2:p<ls.length
 sz:size≤1000
 ec:aW s size ls.length p=af
 hcl:af.length≤9
 gW:p≤af.length
 hm:af.length - p≤6
 jI:∀c∈af,uB ws ls c
 xw:∀c∈af,c.2.2.1≤10/\c.2.2.2≤100
 ch:∀hs:List (Option (List UInt8)),hs.length=af.length->gk af.length (gV hs) p 100 (jD (gV hs) p) 0=some (kL af.length (gV hs) p)/\(kL af.length (gV hs) p).length≤1000/\∀ar∈kL af.length (gV hs) p,EY af.length p ar
def Acc(af:List bG)(p size:Nat)(ak:List UInt8)(hs:List (Option (List UInt8))):Prop:=∃ar∈kL af.length (gV hs) p,Good (f8 af hs) p size ak ar
theorem sy:(bp Ls af).length=af.length:=aC ..
theorem acU{ar:List Nat}{j5:List (List UInt8)}{inv:bj}(h:Short aV):Short (sh aV ar j5 inv):=λx hx=>by
 obtain ⟨y,_,rfl⟩:=bF.mp hx;refine aa iX (ag (kB ..) ?_)
 by_cases q:y.1<aV.length
 ·exact aa (cZ q) (h _ (mu q))
 ·rw [i9,ir (fA q)];exact da _
theorem acV:∀(l:List (Nat×List UInt8)) (ps:List (List UInt8)),Short ps->(∀x∈l,x.2.length≤1000)->Short (putAll ps l):=by
 intro l
 induction l with
 | nil=>exact λJ h J=>h
 | cons x l ih=>exact λps h hl=>ih _ (λy hy=>by
   rcases aaA hy with hy | rfl
   ·exact h y hy
   ·exact hl x (.head _)) λy hy=>hl y (.tail _ hy)
theorem M1:∀{ps:List (List UInt8)},Short ps->ps.flatten.length≤1000*ps.length:=by
 intro ps
 induction ps with
 | nil=>exact λJ=>cb _
 | cons x ps ih =>
  intro h;refine aa M2 (aa de (aa nS ?_));exact ag (bS (lg ..)) (fL (ih λy hy=>h y (.tail _ hy)) (h x (.head _)))
theorem acW{held:List (List UInt8)}{ar:List Nat}(h:Short held)(hl:held.length≤20):(oU held p ar).flatten.length≤100000:=by
 have hd:Short (held.drop p):=λx hx=>h x (nN hx)
 have hs:Short (oU held p ar):=by
  unfold oU Ah;exact acV _ _ hd λx hx=>acU hd _ (iz hx).2
 have c9:(oU held p ar).length≤20:=by
  unfold oU Ah;refine aa (abH ..) (aa f0 ?_);exact ag (gE ..) hl
 exact ag (M1 hs) (ag (c8 1000 c9) (nb rfl))
theorem bl.cont{S:Nat}(T:iA S ws ls)(G:bl S ws ls σ Ls)(hk:k<ls.length):(Ls.getD k ax).cont.length=4*(ws.getD k (0,0)).2:=by
 obtain ⟨fs,G⟩:=G;obtain ⟨g,i,j,mem,aZ,D⟩:=G.at_ k hk;exact ao D.cont (aa (xp (Ay D.len D.wk) (OV T.S4 (T.w k hk).1)) rfl)
theorem acX(hc:oJ af)(h:∀x∈hs,∀b,x=some b->b.length≤1000):Short (f8 af hs):=λy hy=>by
 obtain ⟨⟨c,o⟩,hx,rfl⟩:=bF.mp hy
 have hm:=iz hx
 cases o with
 | none=>have:=hc c hm.1;simp;exact ag (uU 4 this.1) (nb rfl)
 | some b=>exact h _ hm.2 b rfl
theorem M3{S:Nat}(T:iA S ws ls)(G:bl S ws ls σ Ls)(ip:∀c∈af,uB ws ls c):∀x∈bp Ls af,∀b,x=some b->b.length≤1000:=λx hx b hb=>by
 obtain ⟨c,hc,rfl⟩:=bF.mp hx
 have h1:=G.cont T (ip c hc).1
 have h2:=T.w _ (ip c hc).1
 unfold dX at hb
 split at hb
 ·cases hb
 ·cases hb;exact h1▸ag (c8 4 h2.2) (nb rfl)
theorem acY:∀{hs:List (Option (List UInt8))},kh .none (hs.map fJ)=some (hs.any (λz=>z.isNone)):=by
 intro hs
 induction hs with
 | nil=>rfl
 | cons x hs ih =>
  refine (congrArg (λo=>(gf (fJ x) .none).bind λa=>yn (λb=>a || b) o) ih).trans ?_;cases x<;>rfl
noncomputable def nz(hs:List (Option (List UInt8))):List (List UInt8):=hs.map (λz=>z.getD [])
theorem acZ:∀{hs:List (Option (List UInt8))},hs.any (λz=>z.isNone)=false->hs.map fJ=(nz hs).map .bytes:=by
 intro hs
 induction hs with
 | nil=>exact λJ=>rfl
 | cons x hs ih =>
  rcases x with _ | b
  ·exact λh=>ff h.symm
  ·exact λh=>congrArg (ug _) (ih h)
def nA(size:Nat)(ak:List UInt8)(hs:List (Option (List UInt8))):Prop:=hs.any (λz=>z.isNone)=false/\(nz hs).flatten.take size=ak
theorem ac0{k:Bool->Prop}(h:k (hs.any (λz=>z.isNone))):vi σ .none (.list (hs.map fJ)) k:=⟨_,acY,h⟩
theorem ac1(h:∀x∈hs,∀b,x=some b->b.length≤1000):Short (nz hs):=λx hx=>by
 obtain ⟨o,ho,rfl⟩:=bF.mp hx;cases o with
 | none=>exact da _
 | some b=>exact h _ ho b rfl
theorem ny.uF{S:Nat}{s size:Nat}(B:ny S ws ls p s size af):oJ af:=λc hc=>⟨ag (B.xw c hc).1 (nb rfl),(B.xw c hc).2⟩
theorem ny.km{S:Nat}{s size:Nat}(B:ny S ws ls p s size af):af.length≤10:=mi B.hcl
theorem ac2(h:Short (nz hs))(hl:hs.length≤10):(nz hs).flatten.length≤1000000:=ag (M1 h) (by rewrite [nz];refine aa (aC ..) ?_;exact ag (c8 1000 hl) (nb rfl))
section
variable{X:Cx}(C:Ctx X){n:Nat}{K:ab->aq->Prop}{σ:aq}{S:Nat}{ws:List (Nat×Nat)}{ls:List Addr}{Ls:List Lf}{p s size:Nat}{af:List bG}
include C
theorem ny.M4(B:ny S ws ls p s size af)(ho:ak.length≤1000)(T:iA S ws ls)(G:bl S ws ls σ Ls)
  (h1:Acc af p size ak (bp Ls af)->K (.tuple [.bytes ak,aJ (bz (mE af (bp Ls af) (aF ak af p)))]) σ) (h0:¬ Acc af p size ak (bp Ls af)->K (.tuple [.none, .list []]) σ) :
  az X (n+8) (.ref 307) [b0 ls p,jG af, .list ((bp Ls af).map fJ), .n size, .lam ak] [] K σ:=by
 have AF:=acX B.uF (M3 T G B.jI)
 obtain ⟨e1,e2,e3⟩:=B.ch (bp Ls af) sy
 have nv:(f8 af (bp Ls af)).length≤20:=by rewrite [f8];refine aa (aC ..) ?_;exact ag (nr B.hcl) (nb rfl)
 exact acT C ho B.sz B.uF B.hcl B.h3 B.gW B.hm sy AF (λar=>acW AF nv) e1 e2 e3 h1 λh=>h0 λ⟨ar,a,b⟩=>h ar a b
theorem E1(B:ny S ws ls p s size af)(ho:ak.length≤1000)(G:bl S ws ls σ Ls)
  (h:∀σ',bl S ws ls σ' Ls->(Acc af p size ak (bp Ls af)->K (.tuple [.bytes ak,aJ (bz (mE af (bp Ls af) (aF ak af p)))]) σ')/\(¬ Acc af p size ak (bp Ls af)->K (.tuple [.none, .list []]) σ')) :
  az X (n+9) (.ref 302) [b0 ls p, .n s, .n size, .lam ak] [] K σ:=by
 refine C.call 34 rfl rfl (gm C (Au C B.sz B.h1 B.h3 B.h2 B.T.gF ?_));exact aa B.ec (gm C (gm C (EU C B.T G B.jI B.km λσ' G'=>B.M4 C ho B.T G' (h σ' G').1 (h σ' G').2)))
theorem E2(B:ny S ws ls p s size af)(ho:ak.length≤1000)(G:bl S ws ls σ Ls)
  (h:∀σ',bl S ws ls σ' Ls->(nA size ak (bp Ls (af.drop p))->K (.tuple [.bytes ak, .list []]) σ')/\(¬ nA size ak (bp Ls (af.drop p))->(Acc af p size ak (bp Ls af)->K (.tuple [.bytes ak,aJ (bz (mE af (bp Ls af) (aF ak af p)))]) σ')/\(¬ Acc af p size ak (bp Ls af)->K (.tuple [.none, .list []]) σ'))) :
  az X (n+9) (.ref 295) [b0 ls p, .n s, .n size, .lam ak] [] K σ:=by
 have dB:p≤1000:=ag B.h3 (nb rfl)
 have M5:af.length≤1000:=ag B.hcl (nb rfl)
 have M6:∀c∈af.drop p,uB ws ls c:=λc hc=>B.jI c (nN hc)
 have E3:(af.drop p).length≤10:=aa f0 (ag (gE ..) B.km)
 have ev:(bp Ls (af.take p)).map fJ++(bp Ls (af.drop p)).map fJ=(bp Ls af).map fJ:=by
  refine ao gR ?_;rewrite [bp];rewrite [bp];refine ao gR (aa (ER ..) ?_);rfl
 let S1:Unit->St:=λJ=>{m:= [some (b0 ls p),some (.n s),some (.n size),some (.lam ak),some (jG af),none,none],fz:= [],σ:=σ}
 let S2:aq×Option ab->St:=λx=>{m:= [some (b0 ls p),some (.n s),some (.n size),some (.lam ak),some (jG af),some (.list ((bp Ls (af.drop p)).map fJ)),x.2],fz:= [],σ:=x.1}
 refine C.call 33 rfl rfl (join S1 (λJ=>True) (λK' k J=>gm C (Au C B.sz B.h1 B.h3 B.h2 B.T.gF (aa B.ec (k () _ trivial rfl)))) λJ J=>join S2 (λx=>bl S ws ls x.1 Ls/\x.2=none) (λK' k J=>gm C (Ai dB M5 (EU C B.T G M6 E3 λσ' G'=>k (σ',none) _ ⟨G',rfl⟩ rfl))) λ⟨σ',_⟩ ⟨G',e⟩=> ?_);subst e;refine join S2 (λx=>bl S ws ls x.1 Ls/\¬ nA size ak (bp Ls (af.drop p))) (λK' k E0=>ac0 (bf.n (bf.c (λq=>k (σ',none) _ ⟨G',λh=>ff (h.1.symm.trans q)⟩ rfl) λq=> ?_))) λx hx=>gm C (gm C (Ae dB M5 λws e=>EU C B.T hx.1 (λc hc=>B.jI c (pg (ao e hc))) (by refine aa e (aa iX ?_);exact ag (jW ..) B.km) λaQ G2=>⟨?_, ?_⟩))
 ·have ac3:Short (nz (bp Ls (af.drop p))):=ac1 (M3 B.T G' M6)
  refine (congrArg (λl=>az X (n+8) (.ref 135) [.list l, .n size] [] _ σ') (acZ q)).mpr (Me C (ac2 ac3 (aa sy E3)) B.sz (L1 C.ok (bf.d (λq2=> .fz lk (E0 _ _ ?_)) λq2=>k (σ',some _) _ ⟨G',λh=>q2 h.2⟩ rfl)))
  have:=(h σ' G').1 ⟨q,q2⟩
  rw [<-q2] at this
  exact this
 ·show _≤_
  rw [e,aC,aC,sy,sy,iX];exact ag (fL (ag (jW ..) B.km) E3) (nb rfl)
 ·refine aa e (aa ev ?_);exact B.M4 C ho B.T G2 ((h aQ G2).2 hx.2).1 ((h aQ G2).2 hx.2).2
end
noncomputable def sA(L:Lf):Lf:=if L.out then L else {L with wn:=0}
noncomputable abbrev Pt:=Nat×Nat×Nat
noncomputable abbrev xx(x:Pt):d8:= .list [.n x.1, .n x.2.1, .n x.2.2]
noncomputable abbrev oV(x:Pt):ab:= .list [.n x.1, .n x.2.1, .n x.2.2]
noncomputable abbrev eA(pt:List Pt):ab:= .list (pt.map oV)
noncomputable def nB(s w:Nat)(ci:List Pt)(i:Nat):List Pt :=
 let f:=if i<w then ci++ [((s+i) % w,(s+i) / w,0)] else ci
 let x:=f.getD (i % w) (0,0,0)
 f.set (i % w) (x.1,x.2.1,x.2.2+1)
noncomputable def ac4:List Pt->List Pt
 | x::y::t=>(y.1,y.2.1,x.2.2)::(x.1,x.2.1,y.2.2)::t
 | l=>l
noncomputable def mF(m w p:Nat):Nat:=m+p*((m+(w - p) - 1) / (w - p))
noncomputable def xy(s m w p:Nat)(turn:Bool):List Pt:=let l:=(aK (mF m w p)).foldl (nB s w) [];if turn then ac4 l else l
noncomputable def kM(pt:List Pt)(x:Int)(p most:Nat)(st:List Nat×List Nat)(turn:Nat):List Nat×List Nat :=
 let child:=(pt.getD (((x.fdiv 7).fdiv (5^turn)).fmod pt.length).toNat (0,0,0)).1
 if child∈st.1++st.2 then st
 else if (x.fdiv 3).fmod 2=(turn % 2:Nat)/\st.1.length<most/\x.fmod (p+2)≤p then (st.1++ [child],st.2) else (st.1,st.2++ [child])
noncomputable def AG(pt:List Pt)(x:Int)(p most:Nat):List Nat×List Nat:=(aK (x.fmod (p+2)).toNat).foldl (kM pt x p most) ([],[])
noncomputable def gX(b:List UInt8):List UInt8:=b.map λx=>255 - x
noncomputable def oW(eJ:List Nat)(Ls:List Lf)(x:Pt):List Lf:=if x.1∈eJ then Ls.set x.1 (eQ 0 (Ls.getD x.1 ax) (gX (Ls.getD x.1 ax).cont) x.2.2) else Ls
noncomputable def jJ(pt:List Pt)(eJ:List Nat)(Ls:List Lf):List Lf:=pt.foldl (oW eJ) Ls
noncomputable def AH(v:Bool)(Ls:List Lf)(k:Nat):List Lf:=Ls.set k {Ls.getD k ax with out:=v}
noncomputable def f9(which:List Nat)(v:Bool)(Ls:List Lf):List Lf:=which.foldl (AH v) Ls
theorem uG(b:List UInt8):(gX b).length=b.length:=aC ..
theorem ac5(m k:Nat)(hk:0<k): -((-(m:Int)).fdiv (k:Int))=(((m+k - 1) / k:Nat):Int):=by
 refine aa (BI _ (eh _)) (Int.neg_eq_comm.mp (((Int.ediv_emod_unique (a:= -(m:Int)) (r:=(k*((m+k - 1) / k):Nat) - (m:Int)) (il.mpr hk)).mpr ⟨?_, ?_, ?_⟩).1.symm))
 ·exact aa (Int.mul_neg ..) (ao Int.sub_eq_add_neg (aa (ac6 ..) (aa (vI ..) (ao (ac6 ..) (aa (MA _) (Int.zero_sub _))))))
 ·exact It (dT.mpr (Gh (b:=k) (ao (vQ (ag hk (lm k m))) (Nat.lt_mul_div_succ (m+k - 1) hk))))
 ·exact Int.sub_left_lt_of_lt_add (il.mpr (eB (Nat.mul_div_le ..) (LR (et hk (lm k m)) ac7)))
theorem E4(m k:Nat)(hk:0<k): -(fQ (-(m:Int)) (k:Int))=(((m+k - 1) / k:Nat):Int):=aa (pr ..) (ac5 m k hk)
def ac8(S:Nat)(ws:List (Nat×Nat))(ls:List Addr)(Ls:List Lf)(i:Nat)(y:aq×List Lf):Prop:=bl S ws ls y.1 y.2/\y.2.length=Ls.length/\∀k,y.2.getD k ax=if k<i then sA (Ls.getD k ax) else Ls.getD k ax
def DN(σ:aq)(a:Addr):Prop:=∃g m,σ a=some (.inst 739 [("disk", .none),("guid", .int g),("shape",dv),("missing", .ref m)])
theorem E5(ls:List Addr):ls.map ab.ref=(aK ls.length).map λk=>ab.ref (ls.getD k 0):=by
 apply wP
 intro k;rw [cW,cW]
 by_cases q:k<ls.length
 ·rw [zd q,bE q,AI,AI,cZ q]
 ·rw [ir (fA q),ir (by refine aa fh ?_;exact fA q)];rfl
theorem ac9{gr:Nat->Bool}{n z:Nat}:(∀x∈(aK n).filterMap (λk=>if gr k=false then none else some z),x=z/\∃k,k<n/\gr k=true):=λx hx=>by
 obtain ⟨k,hk,e⟩:=oE.mp hx;cases q:gr k with
 | false=>rw [if_pos q] at e;exact nn e
 | true=>rw [if_neg (by refine aa q ?_;exact AE)] at e;exact ⟨(aM e).symm,k,fU.mp hk,q⟩
theorem ac'{gr:Nat->Bool}{n z:Nat}(h:(aK n).filterMap (λk=>if gr k=false then none else some z)= [])(k:Nat)(hk:k<n):gr k=false:=by
 cases q:gr k with
 | false=>rfl
 | true=>exact absurd (E6.mp h k (fU.mpr hk)) (aa q nofun)
section
variable{X:Cx}(C:Ctx X){n:Nat}{K:ab->aq->Prop}{σ:aq}{S:Nat}{ws:List (Nat×Nat)}{ls:List Addr}{Ls:List Lf}{p:Nat}
include C
theorem M7(T:iA S ws ls)(G:bl S ws ls σ Ls)(h:∀σ' dM,bl S ws ls σ' dM->dM.length=Ls.length->(∀k,k<ls.length->dM.getD k ax=sA (Ls.getD k ax))->K .none σ'):az X (n+5) (.ref 328) [b0 ls p] [] K σ:=by
 let S':aq×List Lf->St:=λy=>{m:= [some (b0 ls p),none],fz:= [],σ:=y.1}
 refine C.call 38 rfl rfl (loop [false,true] ls .ref S' (ac8 S ws ls Ls) (σ,Ls) ⟨G,rfl,λk=>(if_neg (EH k)).symm⟩ (λJ J J=>dW) (λi a y K' ei P k J=> ?_) λy P=>h y.1 y.2 P.1 P.2.1 λk hk=>aa (P.2.2 ..) (aa (if_pos hk) rfl));obtain ⟨⟨fs,G⟩,hl,hg⟩:=P;obtain ⟨hi,ea⟩:=dr.mp ei;obtain ⟨g,c,j,mem,aZ,D⟩:=G.at_ i hi
 have ea:ls.getD i 0=a:=aa (cZ hi) (aa ea rfl)
 rw [ea] at D
 refine D.aI C (acK C D T.S1 λaQ U=> ?_);rw [<-ea] at U
 refine k (aQ,_) _ ⟨G.upd hi (σ':=aQ) (L':=sA (y.2.getD i ax)) U,(kl ..).trans hl,λj=> ?_⟩ rfl;refine aa oN ?_
 by_cases q:i=j
 ·subst q;exact aa (if_pos ⟨rfl,by rw [G.Ll];exact hi⟩) (aa (if_pos (jr i)) (aa (hg ..) (aa (if_neg (iL i)) rfl)))
 ·refine aa (if_neg (λh=>q h.1)) (aa (hg ..) ?_)
  by_cases q2:j<i
  ·exact aa (if_pos q2) (aa (if_pos (pK q2)) rfl)
  ·exact aa (if_neg q2) (aa (if_neg λh=>(Nat.lt_succ_iff_lt_or_eq.mp h).elim q2 λe=>q e.symm) rfl)
theorem E7(hl:ls.length≤10)(h:K (.list (ls.map .ref)) σ):az X (n+1) (.ref 335) [b0 ls p] [] K σ :=
 C.call 39 rfl rfl (K0 (vs:=ls.map .ref) rfl (by refine aa (aC ..) ?_;exact ag hl (nb rfl)) (.inl h))
theorem E8(T:iA S ws ls)(gr:Nat->Bool)(hp:∀k,k<ls.length->if gr k then ∃row aP f L,mD S row aP σ (ls.getD k 0) f L else DN σ (ls.getD k 0))
  (h1:(∃k,k<ls.length/\gr k=true)->K (.n ((S - 4)*ls.length)) σ) (h0:(∀k,k<ls.length->gr k=false)->K (.int 0) σ):az X (n+6) (.ref 255) [b0 ls p] [] K σ:=by
 have hl:ls.length≤1000:=ag T.gF (nb rfl)
 have mJ:=ac9 (gr:=gr) (n:=ls.length) (z:=S - 4)
 have ada:=ac' (gr:=gr) (n:=ls.length) (z:=S - 4)
 have qp:((aK ls.length).filterMap λk=>if gr k=false then none else some (S - 4)).length≤1000:=ag (tN _ _) (jC hl)
 have ef:=ui (aK ls.length) (λk=>gr k=false) (λJ=>S - 4) ab.n
 generalize (aK ls.length).filterMap (λk=>if gr k=false then none else some (S - 4))=l at *
 refine C.call 27 rfl rfl (qe [false,false,true,true] (aK ls.length) (λk=> .ref (ls.getD k 0)) (λk=>if gr k=false then none else some (.n (S - 4))) (jC (k5 hl)) (λk hk K' kk=> ?_) (j0 ef (aa (aC ..) qp) (cu (k:=l.length) (congrArg some (aC _)) (k6 qp) ?_)) (E5 ls))
 ·have gp:=hp k (fU.mp hk)
  cases q:gr k with
  | true =>
   rw [q,if_pos rfl] at gp
   obtain ⟨row,aP,f,L,g,i,j,mem,aZ,D⟩:=gp;exact bX D.lf (v:= .ref f.d) (D.aI C (MT C D T.S1 T.S4 (kk _ _ (aa q (aa (if_neg AE) rfl)) rfl)))
  | false =>
   rw [q,if_neg AE] at gp
   obtain ⟨g,m,e⟩:=gp;exact bX e (v:= .none) (kk _ _ (if_pos q).symm rfl)
 ·cases l with
  | nil=>exact h0 (ada rfl)
  | cons x l =>
   refine fg (a:=0) (b:=(x::l).length) (λJ=>Zg (ns:=(x::l).map λ(x:Nat)=>(x:Int)) (aa (Ag ..) rfl) (rI _) λM hM J=> ?_) λq=>absurd (rI _) q;obtain ⟨y,hy,rfl⟩:=bF.mp hM;exact aa ((mJ y hy).1) (cu (k:=ls.length) (congrArg some (aC _)) (k6 hl) ⟨⟨cY (ag (gE ..) (k6 T.S1)),cY (k6 hl)⟩,h1 (mJ x (.head _)).2⟩)
theorem E9{cq:List Int}(hl:cq.length≤1000)(hk:k≤1000){sv:ab}(hs:lu σ sv (cq.map .int))(h:K (.int (if k<cq.length then cq.getD k 0 else 61*k+4)) σ):az X (n+1) (.ref 750) [sv, .n k] [] K σ :=
 C.call 70 rfl rfl (cu (k:=cq.length) (hs.len.trans (congrArg some (aC _))) (k6 hl) (fg (λq=>hs.sub (i:=k) (w:= .int (cq.getD k 0)) (by rw [cW,bE q,cZ q];rfl) hk (by rw [if_pos q] at h;exact h))
  λq=>⟨⟨by decide,cY (k6 hk)⟩,by rw [if_neg q] at h;exact h⟩))
theorem xz(T:iA S ws ls)(G:bl S ws ls σ Ls){which:List Nat}{v:Bool}(hw:∀k∈which,k<ls.length)(h:∀σ',bl S ws ls σ' (f9 which v Ls)->K .none σ') :
  az X (n+1) (.ref 776) [.list (ls.map .ref),aJ which, .bool v] [] K σ:=by
 let S':aq->St:=λσ=>{m:= [some (.list (ls.map .ref)),some (aJ which),some (.bool v),none],fz:= [],σ:=σ}
 refine C.call 74 rfl rfl (loop [false,false,false,true] which .n S' (λi σ'=>bl S ws ls σ' (f9 (which.take i) v Ls)) σ G (λJ J J=>dW) (λi k σ' K' ei G kk J=> ?_) λσ' G=>h σ' (by rw [kD] at G;exact G));obtain ⟨fs,G⟩:=G
 have hk:=hw k (cr ei)
 have es:f9 (which.take (i+1)) v Ls=AH v (f9 (which.take i) v Ls) k:=uh _ _ ei
 rw [es] at kk
 obtain ⟨g,c,j,mem,aZ,D⟩:=G.at_ k hk;exact oB (sx hk) (T.uC hk) (bX D.lf (v:= .ref (fs.getD k lE).d) (j7 D.dk.d (kk _ _ (G.upd hk (L':={(f9 (which.take i) v Ls).getD k ax with out:=v})
  ⟨fs.getD k lE,⟨g,c,j,mem,aZ,eI D.lf D.dk.d,⟨bU,eI D.dk.b D.dk.d,eI D.dk.w D.dk.d⟩,⟨eI D.rg.m D.dk.d,eI D.rg.r D.dk.d⟩,D.len,D.wk,D.cont,D.wn,D.nd⟩,λJ h=> .inl h,λx J og J=>bA (uz og).1⟩) rfl)))
end
theorem M8(c:Pt)(r:Addr)(h:aD r=some (xx c))(h0:σ r=none):wQ aD σ (.ref r) (oV c):= .list h h0 (qc.refl _)
theorem adb{s i:Nat}{f:List Pt}(hf:f.length=min i w):(nB s w f i).length=min (i+1) w:=by
 unfold nB;refine aa kl ?_
 by_cases q:i<w
 ·refine aa (if_pos q) (aa de (aa hf (aa (gO (bO q)) (aa (gO q) ?_))));rfl
 ·have q:=fA q
  exact aa (if_neg (dA.mpr q)) (aa hf (aa (pX q) (aa (pX (mi q)) rfl)))
noncomputable def LS(σ:aq)(a b:Addr)(h o:List Nat):aq:=(σ.set a (.list (h.map .n))).set b (.list (o.map .n))
theorem kN{a b:Nat}(h:xT a b=true:=by rfl):a≤b:=sO h
theorem adc{i:Nat}{K:St->Prop}(h:K (st.jj i v))(e:nV i st=true:=by rfl):pA [i] false v st K:=cX.i e h
structure AJ where
 f:List Pt
 rs:List Addr
 σ:aq
structure add(s w:Nat)(σ:aq)(a:Addr)(i:Nat)(x:AJ):Prop where
 st:jF xx σ x.σ a x.f x.rs
 eq:x.f=(aK i).foldl (nB s w) []
 len:x.f.length=min i w
structure ade(s w:Nat)(σ:aq)(a:Addr)(i:Nat)(f:List Pt)(x:AJ):Prop where
 st:jF xx σ x.σ a x.f x.rs
 lt:i % w<x.f.length
 eq:x.f.set (i % w) ((x.f.getD (i % w) (0,0,0)).1,(x.f.getD (i % w) (0,0,0)).2.1,(x.f.getD (i % w) (0,0,0)).2.2+1)=nB s w f i
theorem adf{s i:Nat}{f:List Pt}(h:i<w):(f++ [((s+i) % w,(s+i) / w,0)]).set (i % w) (((f++ [((s+i) % w,(s+i) / w,0)]).getD (i % w) (0,0,0)).1,((f++ [((s+i) % w,(s+i) / w,0)]).getD (i % w) (0,0,0)).2.1,((f++ [((s+i) % w,(s+i) / w,0)]).getD (i % w) (0,0,0)).2.2+1)=nB s w f i:=by
 unfold nB;exact aa (if_pos h) rfl
theorem adg{s i:Nat}{f:List Pt}(h:¬ i<w):f.set (i % w) ((f.getD (i % w) (0,0,0)).1,(f.getD (i % w) (0,0,0)).2.1,(f.getD (i % w) (0,0,0)).2.2+1)=nB s w f i:=by
 unfold nB;exact aa (if_neg h) rfl
theorem Fa{r:Addr}(h:st.σ r=some (.list vs))(hk:k≤1000)(hl:vs.length≤1000)(q:K (.list (vs.take k)) st):kj (.ref r) none (some (.int (k:Int))) st K :=
 .list vs 0 k (oA h) rfl (wY (k6 hk)) (k6 hl) (.fz (by show _≤_;refine aa yL (aa iX ?_);exact ag (jW ..) (k6 hl)) q)
section
variable{X:Cx}(C:Ctx X){n:Nat}{K:ab->aq->Prop}{σ:aq}
include C
theorem adh{s:Nat}{t:Bool}(hm:m≤100)(hp:p≤3)(h2:p<w)(hw:w≤10)(hN:mF m w p≤1000)(ht:t=true->2≤mF m w p/\2≤w)(h:K (eA (xy s m w p t)) σ):az X (n+1) (.ref 757) [.n s, .n m, .n w, .n p, .bool t] [] K σ:=by
 have sk:0<w:=eB (da p) h2
 have Fb:(w:Int)≠0:=oI.mpr (fH sk)
 have Am:((w:Int) - (p:Int))≠0:=aa (iw h2) (oI.mpr (fH (ri h2)))
 have ec: -(fQ (-(m:Int)) ((w:Int) - p))=(((m+(w - p) - 1) / (w - p):Nat):Int):=aa (iw h2) (E4 m (w - p) (ri h2))
 have en:(m:Int)+(p:Int)* -(fQ (-(m:Int)) ((w:Int) - p))=(mF m w p:Nat):=aa ec rfl
 have hq:(m+(w - p) - 1) / (w - p)≤1000000:=ag (om _ _) (ag (gE ..) (ag (fL hm (ag (gE ..) hw)) (nb rfl)))
 refine az.out (C.call 71 rfl rfl (.own lk λa ha=> ?_));replace ha:σ a=none:=ha
 let S:AJ->St:=λx=>{m:= [some (.n s),some (.n m),some (.n w),some (.n p),some (.bool t),some (.ref a),none],fz:= [],σ:=x.σ}
 refine ⟨⟨Am,by refine aa (iw h2) ?_;exact cY (ag (gE ..) (ag hw (nb rfl)))⟩,⟨cY (ag hp (nb rfl)),aa ec (cY hq)⟩,aa en (rg hN),
  loop [false,false,false,false,false,false,true] (aK (mF m w p)) .n S (add s w σ a) ⟨[],[],_⟩ ⟨⟨bU,rfl,λJ J J=>nofun,λJ=>nofun,by simp,ha,my ha⟩,rfl,(Dr w).symm⟩ (λJ J J=>dW) (λi i' x K' ei P k J=> ?_) (λx P=> ?_) (aa en (i7 _))⟩
 ·refine dP (qk ei) λgf hi=> ?_;subst gf
  have qt:i≤1000:=ag (bO hi) hN
  have adi:i % w<w:=Bg _ sk
  have iZ:x.f.length≤1000:=P.len▸ag (kB ..) qt
  let S2:AJ->St:=λx=>{m:= [some (.n s),some (.n m),some (.n w),some (.n p),some (.bool t),some (.ref a),some (.n i)],fz:= [],σ:=x.σ}
  refine adc (join S2 (ade s w σ a i x.f) (λK' k J=>fg (a:=i) (b:=w) (λq=>⟨_,oy P.st.lst,Fb,⟨Fb,cY (ag hw (nb rfl))⟩, .own lk λr hr=> ?_⟩) λq=>k x _ ⟨P.st, ?_,adg q⟩ rfl) λy Q=> ?_)
  ·replace hr:x.σ r=none:=hr;refine t0 (vs:=x.rs.map .ref) ((bA λe=>P.st.ux (r:=a) (Bi ..) ((congrArg x.σ e).trans hr)).trans P.st.lst) (by refine aa (aC ..) (aa P.st.len ?_);exact k6 iZ)
    (k ⟨x.f++ [((s+i) % w,(s+i) / w,0)],x.rs++ [r],(x.σ.set r (xx ((s+i) % w,(s+i) / w,0))).set a (.list (x.rs.map .ref++ [.ref r]))⟩ _ ⟨?_, ?_,adf q⟩ rfl)
   ·have:=P.st.push (c:=((s+i) % w,(s+i) / w,0)) hr
    rw [gR] at this
    exact this
   ·refine aa de (aa P.len (aa (gO (bO q)) ?_));exact uV (Nat.mod_le ..)
  ·refine aa P.len (aa (pX (fA q)) ?_);exact adi
  ·have gD:i % w<y.rs.length:=aa Q.st.len Q.lt
   have hr:y.rs[i % w]? =some y.rs[i % w]:=bE gD
   generalize y.rs[i % w]=r at hr
   have p9:=Q.st.at_ _ _ _ hr (show y.f[i % w]? =some (y.f.getD (i % w) (0,0,0)) by rw [bE Q.lt,cZ Q.lt])
   have hs:=Q.eq
   generalize y.f.getD (i % w) (0,0,0)=z at p9 hs
   refine ⟨Fb,ly (i:=i % w) Q.st.lst (by rw [cW,hr];rfl) (ag (Nat.mod_le ..) qt) (ly (i:=2) p9 rfl (nb rfl) (zZ (i:=2) p9 kN (nb rfl) (k ⟨nB s w x.f i,y.rs,y.σ.set r (xx (z.1,z.2.1,z.2.2+1))⟩ _ ⟨hs▸Q.st.upd (i:=i % w) (c:=(z.1,z.2.1,z.2.2+1)) hr, ?_,adb P.len⟩ rfl)))⟩;refine aa zW (aa rM (ao P.eq ?_));rfl
 ·obtain ⟨f,rs,aD⟩:=x
  have Q:=P.st
  have hl:=P.len
  have ef:=P.eq
  dsimp only at Q hl ef
  rw [fh] at hl ef
  unfold xy at h
  dsimp only at h
  rw [<-ef] at h
  cases t with
  | false=>exact Q.out M8 h
  | true =>
   obtain ⟨h3,h4⟩:=ht rfl
   have hf:2≤f.length:=hl▸zE.mpr ⟨h3,h4⟩
   have gD:2≤rs.length:=ao Q.len.symm hf
   rcases f with _ | ⟨x0,_ | ⟨x1,f⟩⟩
   ·exact absurd hf (M9 1)
   ·exact absurd hf (adj 1)
   rcases rs with _ | ⟨r0,_ | ⟨r1,rs⟩⟩
   ·exact absurd gD (M9 1)
   ·exact absurd gD (adj 1)
   have h0:=Q.at_ 0 r0 x0 rfl rfl
   have h1:=Q.at_ 1 r1 x1 rfl rfl
   have bt:r1≠r0:=λe=>absurd (An (fW.mp Q.nd).2 (i:=0) (j:=1) rfl (congrArg some e)) (by decide)
   have Q1:=Q.upd (i:=0) (c:=(x1.1,x1.2.1,x0.2.2)) rfl
   have Q2:=Q1.upd (i:=1) (r:=r1) (c:=(x0.1,x0.2.1,x1.2.2)) rfl
   exact ly (i:=1) Q.lst rfl (nb rfl) (Fa (k:=2) h1 (nb rfl) kN (ly (i:=0) Q.lst rfl (nb rfl) (Fa (k:=2) h0 (nb rfl) kN (ly (i:=0) Q.lst rfl (nb rfl)
    (.list r0 _ _ 0 2 rfl h0 rfl rfl (uy (k:=2) rfl (nb rfl)) lk (da _) (nb rfl) (ly (i:=1) Q1.lst rfl (nb rfl) (.list r1 _ _ 0 2 rfl ((bA bt).trans h1) rfl rfl (uy (k:=2) rfl (nb rfl)) lk (da _) (nb rfl) (Q2.out M8 h))))))))
end
section
variable {pt:List Pt}
section
variable{σ:aq}{a b:Addr}{h o:List Nat}
theorem xB(dc:a≠b):LS σ a b h o a=some (.list (h.map .n)):=by rewrite [LS];exact aa (bA dc) (aa bU rfl)
theorem AK:LS σ a b h o b=some (.list (o.map .n)):=bU
theorem adk{x:Nat}(dc:a≠b):(LS σ a b h o).set a (.list (h.map .n++ [.n x]))=LS σ a b (h++ [x]) o:=by
 funext c;unfold LS aq.set
 by_cases h1:c=a
 ·subst h1;simp [dc]
 ·simp [h1]
theorem adl{x:Nat}:(LS σ a b h o).set b (.list (o.map .n++ [.n x]))=LS σ a b h (o++ [x]):=by
 rewrite [LS];refine aa rZ ?_;rewrite [LS];refine aa gR ?_;rfl
end
theorem M'(x:Int)(p:Nat):0≤x.fmod (p+2)/\x.fmod (p+2)<p+2:=by
 have h:(0:Int)<(p:Int)+2:=il.mpr (rI (p+1))
 exact aa (tr _ (n8 h)) (⟨Fc _ (Fd h),Fe _ h⟩)
theorem Na{x:Int}(hp:p≤3):(x.fmod (p+2)).toNat≤4 :=
 tW.mpr (adm (Jz (M' x p).2 (dT.mpr (gz hp 2))))
theorem adn{x:Int}{st:List Nat×List Nat}{i:Nat}:(kM pt x p most st i).1.length+(kM pt x p most st i).2.length≤st.1.length+st.2.length+1:=by
 unfold kM;dsimp only
 split
 ·exact b6 ..
 ·split<;>simp<;>first | exact bS (sR ..) | exact cb _
theorem ain(n:Nat):kY 0 n=(aK n).map ab.n:=i7 n
theorem Nb{i:Nat}{z:Int}{k:ab->Prop}(e:z=(i:Int))(hi:vs[i]? =some v)(hb:i≤1000)(q:k v):bB (mT σ (.list vs) z) k:=by subst e;exact oB hi hb q
noncomputable def oX(pt:List Pt)(x:Int)(i:Nat):Nat:=(((x.fdiv 7).fdiv (5^i)).fmod pt.length).toNat
theorem ado{x:Int}{i:Nat}(h:0<pt.length):mS (fQ (fQ x 7) (5^((i:Int)).toNat)) (pt.length:Int)=(oX pt x i:Int)/\oX pt x i<pt.length:=by
 have h0:(0:Int)<(pt.length:Int):=il.mpr h
 have hn:0≤((x.fdiv 7).fdiv (5^i)).fmod pt.length:=aa (tr _ (n8 h0)) (Fc _ (Fd h0))
 have e:(oX pt x i:Int)=((x.fdiv 7).fdiv (5^i)).fmod pt.length:=tI hn
 refine ⟨aa (lS ..) (aa (pr ..) (aa (pr ..) (aa (mf ..) (aa e rfl)))),il.mp ?_⟩;refine aa e (aa (tr _ (n8 h0)) ?_);exact Fe _ h0
theorem adp(b:List UInt8):b.map (λo=>ab.int ((255 - o:UInt8).toNat))=dZ (gX b):=by unfold dZ gX;refine aa dj ?_;rfl
theorem adq(o:UInt8):(255:Int) - (o.toNat:Int)=((255 - o:UInt8).toNat:Int):=by
 have h:=o5 (qi o)
 exact aa (UInt8.toNat_sub_of_le _ _ (UInt8.le_iff_toNat_le.mpr h)) ((nm h).symm)
theorem adr{i:Nat}(h:i<5):(5:Int)^((i:Int)).toNat≠0/\((5:Int)^((i:Int)).toNat).natAbs≤2^31:=by
 have e:(5:Int)^((i:Int)).toNat=((5^i:Nat):Int):=aH (mf ..) (Int.natCast_pow ..) rfl
 exact aa e (⟨oI.mpr (fH (Nat.pow_pos (nb rfl))),cY (ag (Ln (nb rfl) (o5 h)) (nb rfl))⟩)
theorem ads{b:Addr}{h o:List Nat}(ha:σ a=none)(hb:σ b=none):∀c ob,σ c=some ob->LS σ a b h o c=some ob:=λc ob e=>by
 rw [LS,bA,bA]
 ·exact e
 ·rintro rfl;exact nn (ha.symm.trans e)
 ·rintro rfl;exact nn (hb.symm.trans e)
section
variable{X:Cx}(C:Ctx X){n:Nat}{K:ab->aq->Prop}{σ:aq}{S:Nat}{ws:List (Nat×Nat)}{ls:List Addr}{Ls:List Lf}{p:Nat}
include C
theorem Nc{x:Int}(hp:p≤3)(fi:0<pt.length)(Nd:pt.length≤100)(h:K (.tuple [aJ (bz (AG pt x p most).1),aJ (bz (AG pt x p most).2)]) σ) :
  az X (n+1) (.ref 764) [eA pt, .int x, .n p, .n most] [] K σ:=by
 refine az.out (C.call 72 rfl rfl (.own lk λa ha=> .own lk λb hb=> ?_));replace ha:σ a=none:=ha;obtain ⟨Er,hb⟩:=mz (σ:=σ) (a:=a) (o:= .list []) hb
 have dc:=Er.symm
 have uw:((p:Int)+2)≠0:=oI.mpr (Mq (p+1))
 have em:=lS x ((p:Int)+2)
 have hn:=Na (x:=x) hp
 have en:((x.fmod (p+2)).toNat:Int)=mS x ((p:Int)+2):=(tI (M' x p).1).trans em.symm
 let S':List Nat×List Nat->St:=λq=>{m:= [some (eA pt),some (.int x),some (.n p),some (.n most),some (.ref a),some (.ref b),none,none],fz:= [],σ:=LS σ a b q.1 q.2}
 refine ⟨uw,by refine ao en ?_;exact rg (ag hn (nb rfl)),jY [false,false,false,false,false,false,true,true] (aK (x.fmod (p+2)).toNat) .n (kM pt x p most) S' (λi q=>q.1.length+q.2.length≤i) ([],[]) (cb _) (λi j q e h=>ag adn (fO h)) (λJ=>dW) (λi i' q K' ei hl k J=> ?_)
  (λhl=> ?_) (ao en (i7 _))⟩
 ·obtain ⟨rfl,hi⟩:=qk ei
  have Ff:=et hi hn
  obtain ⟨e1,e2⟩:=ado (x:=x) (i:=i) fi;obtain ⟨hh,oo⟩:=q
  have hl:hh.length+oo.length≤4:=ag hl (bO Ff)
  have hx:(pt.map oV)[oX pt x i]? =some (oV (pt.getD (oX pt x i) (0,0,0))):=by rw [cW,bE e2,cZ e2];rfl
  have fZ:∀{l:List Nat},l.length≤4->(l.map ab.n).length≤1000000:=λh=>by refine aa (aC ..) ?_;exact ag h (nb rfl)
  have Nf:=ag (b6 ..) hl
  have adt:=ag (lm ..) hl
  unfold kM at k
  change ∀y st',y=(if (pt.getD (oX pt x i) (0,0,0)).1∈hh++oo then (hh,oo) else if (x.fdiv 3).fmod 2=(i % 2:Nat)/\hh.length<most/\x.fmod (p+2)≤p then (hh++ [(pt.getD (oX pt x i) (0,0,0)).1],oo) else (hh,oo++ [(pt.getD (oX pt x i) (0,0,0)).1]))->_->_ at k
  generalize pt.getD (oX pt x i) (0,0,0)=y at hx k
  let S2:aq->St:=λσ=>{m:= [some (eA pt),some (.int x),some (.n p),some (.n most),some (.ref a),some (.ref b),some (.n i),some (.n y.1)],fz:= [],σ:=σ}
  refine ⟨⟨by decide,by decide⟩,⟨⟨by decide,by decide,eh i,dT.mpr (ag (bO Ff) (nb rfl))⟩,⟨adr (pK Ff),cu (k:=pt.length) (congrArg some (aC _)) (ag Nd (nb rfl)) ⟨oI.mpr (fH fi),Nb e1 hx (ag (bO e2) (ag Nd (nb rfl)))
   ⟨_,_,xB dc,AK,by show _≤_;refine aH (aC ..) (aC ..) ?_;exact ag hl (nb rfl),np (l:=hh++oo) (congrArg some gR.symm) (λq=>k (hh,oo) _ (if_pos q).symm rfl) λq=> ?_⟩⟩⟩⟩⟩
  rw [if_neg q] at k
  have no:¬ ((x.fdiv 3).fmod 2=(i % 2:Nat)/\hh.length<most/\x.fmod (p+2)≤p)->MethP X (LS σ a b hh oo) (.ref b) "append" λf=>az X n (.raw f) [.ref b, .n y.1] [] (λJ σ=>K' .next (S2 σ)) (LS σ a b hh oo):=λhq =>
   ⟨_,oy AK,t0 AK (fZ adt) (k (hh,oo++ [y.1]) _ (if_neg hq).symm (congrArg (St.mk _ _) adl))⟩
  refine ⟨⟨by decide,by decide⟩,by decide,by decide,bf.d (λq1=>cu (k:=hh.length) ((rP (xB dc)).trans (congrArg some (aC _))) (ag Nf (nb rfl)) (fg (a:=hh.length) (b:=most) (λq2=>⟨uw,bf.d (λq3=> ?_) λq3=>no λh=>q3 (ao em.symm h.2.2)⟩) λq2=>no λh=>q2 h.2.1)) λq1=>no λh=>q1 ?_⟩
  ·exact ⟨_,oy (xB dc),t0 (xB dc) (fZ Nf) (k (hh++ [y.1],oo) _ (if_pos ⟨by refine ao (pr ..) (ao (lS ..) ?_);exact q1,q2,ao em q3⟩).symm (congrArg (St.mk _ _) (adk dc)))⟩
  ·refine aa (lS ..) (aa (pr ..) ?_);exact h.1
 ·have hl:_≤60:=ag hl (jC (ag hn (nb rfl)))
  exact xi (oA (xB dc)) (uD _) (ag (b6 ..) hl) (xi (oA AK) (uD _) (ag (lm ..) hl) (LL (ads ha hb) h))
theorem adu(T:iA S ws ls)(G:bl S ws ls σ Ls){row:Nat}(hk:k<ls.length)(hw:ws.getD k (0,0)=(row,aP)){z:Int}(hz:z=((4*aP:Nat):Int))(ho:(Ls.getD k ax).out=false)
  (h:∀σ',bl S ws ls σ' Ls->K (.bytes (Ls.getD k ax).cont) σ'):az X (n+7) (.raw (.ref 694)) [.ref (ls.getD k 0), .n row, .int z] [] K σ :=
 MW C T G hk hw hz λσ' G'=>by rewrite [dX];refine aa ho ?_;exact h σ' G'
theorem adv(T:iA S ws ls)(G:bl S ws ls σ Ls)(hf:dg Ls 600)(fi:pt.length≤10)(ip:∀x∈pt,x.1<ls.length/\ws.getD x.1 (0,0)=(x.2.1,x.2.2)/\x.2.2≤10){eJ:List Nat}(f6:∀k,(Ls.getD k ax).out=false)
  (h:∀σ',bl S ws ls σ' (jJ pt eJ Ls)->K .none σ'):az X (n+8) (.ref 769) [.list (ls.map .ref),eA pt,aJ eJ] [] K σ:=by
 let S':aq->St:=λσ=>{m:= [some (.list (ls.map .ref)),some (eA pt),some (aJ eJ),none,none,none],fz:= [],σ:=σ}
 refine C.call 73 rfl rfl (loop [false,false,false,true,true,true] pt oV S' (λi σ'=>oS S ws ls Ls (jJ (pt.take i) eJ Ls) (600+10*i) σ') σ ⟨G, .refl,hf⟩ (λJ J J=>dW) (λi x σ' K' ex P k J=> ?_) λσ' P=>h σ' (by have:=P.g;rw [kD] at this;exact this));obtain ⟨hk,hw,hm⟩:=ip x (cr ex)
 have es:jJ (pt.take (i+1)) eJ Ls=oW eJ (jJ (pt.take i) eJ Ls) x:=uh _ _ ex
 have hi:=et (dr.mp ex).1 fi
 rw [es] at k
 generalize jJ (pt.take i) eJ Ls=Li at *
 refine np (l:=eJ) rfl (λq=> ?_) λq=>k σ' _ (by rewrite [oW];refine aa (if_neg q) ?_;exact P.up) rfl;rw [oW,if_pos q] at k
 have ho:=(P.so.2 x.1).trans (f6 x.1)
 refine oB (sx hk) (T.uC hk) ⟨_,xq C P.g hk,oB (sx hk) (T.uC hk) ⟨_,xq C P.g hk,⟨by decide,cY (ag hm (nb rfl))⟩,adu C T P.g hk hw rfl ho λaQ G2=> ?_⟩⟩
 have hcl:=G2.cont T hk
 rw [hw] at hcl
 have j6:(Li.getD x.1 ax).cont.length≤1000:=by refine aa hcl ?_;exact ag (c8 4 hm) (nb rfl)
 exact fe [false,false,false,false,false,false,true,true] (Li.getD x.1 ax).cont (λo=> .int o.toNat) (λo=> .int ((255 - o:UInt8).toNat)) (k5 j6) (λo J aio kk=>kk _ _ (congrArg ab.int (adq o)) rfl)
  (j0 (adp _) (by refine aa (wZ ..) (aa (uG ..) ?_);exact j6) (wN (aa (uG ..) (k6 j6)) (EX C T G2 (x:=((x.1,x.2.1,x.2.2,0),gX (Li.getD x.1 ax).cont)) (EW hi (P.fw _)) ⟨⟨hk,hw⟩,aa (uG ..) hcl,hm⟩ (λJ=> .inl rfl) λnE G3=>k nE _ (P.wr G3 hm) rfl)))
end
end
structure uH(X:Cx):Prop where
 c:Ctx X
 shape:∃fd lam,pS X 455 BZ fd lam/\∀v,pT X fd [v, .int 4, .int 8] [("ring", .int 1),("uber", .int 4),("config", .int 4)] [v, .int 4, .int 8, .int 32, .int 4, .int 4, .int 1, .int 2, .int 128, .int 4, .int 4, .int 128]
 ranges:∃fd lam,pS X 520 B0 fd lam/\∀v,pT X fd [v] [] [v, .tuple []]
noncomputable def L0(S:Nat)(ws:List (Nat×Nat))(k:Nat):Lf:=⟨false,false,win (cf (4*S) 0) (2+(ws.getD k (0,0)).1) (ws.getD k (0,0)).2,0⟩
theorem mG{x d:α}(h:k<l.length):(l++ [x]).getD k d=l.getD k d:=by rw [i9,m8 h];rfl
theorem sB{x d:α}{n:Nat}(h:l.length=n):(l++ [x]).getD n d=x:=by subst h;rw [i9,ab5];rfl
theorem lF.push{S:Nat}{σ':aq}{fs:List Ft}(G:lF S ws ls σ fs Ls){f:Ft}{L:Lf}(h:mD S (ws.getD ls.length (0,0)).1 (ws.getD ls.length (0,0)).2 σ' a f L)
  (hn:∀x∈foot a f,σ x=none) (hk:∀x,σ x≠none->σ' x=σ x):lF S ws (ls++ [a]) σ' (fs++ [f]) (Ls++ [L]):=by
 have old:∀k,k<ls.length->∀x∈foot (ls.getD k 0) (fs.getD k lE),σ x≠none:=λk d3=>(G.at_ k d3).ux
 have len:∀{α β:Type} {l:List α} {l':List β} {x:α} {y:β},l.length=l'.length->(l++ [x]).length=(l'++ [y]).length:=λh=>by refine aa de (aa de (aa h ?_));rfl
 refine ⟨len G.fl,len G.Ll,λk d3=> ?_,λi j hi hj du x hx=> ?_⟩
 ·rcases Ao d3 with q | q
  ·refine aa (mG q) (aa (mG (ao G.fl.symm q)) (aa (mG (ao G.Ll.symm q)) ?_));exact (G.at_ k q).keep λx hx=>hk x (old k q x hx)
  ·refine aa q (aa (sB rfl) (aa (sB G.fl) (aa (sB G.Ll) ?_)));exact h
 ·rcases Ao hi with q | q<;>rcases Ao hj with q2 | q2
  ·rw [mG q,mG (ao G.fl.symm q)] at hx
   refine aa (mG q2) (aa (mG (ao G.fl.symm q2)) ?_);exact G.ap i j q q2 du x hx
  ·rw [mG q,mG (ao G.fl.symm q)] at hx
   refine aa q2 (aa (sB rfl) (aa (sB G.fl) ?_));exact λh=>old i q x hx (hn x h)
  ·rw [q,sB rfl,sB G.fl] at hx
   refine aa (mG q2) (aa (mG (ao G.fl.symm q2)) ?_);exact λh=>old j q2 x h (hn x hx)
  ·exact absurd (q.trans q2.symm) du
section
variable{X:Cx}(C:uH X){n:Nat}{K:ab->aq->Prop}{σ:aq}
include C
theorem adw(h:K dv σ):az X (n+2) (.ref 458) [.int 4, .int 8] [("ring", .int 1),("uber", .int 4),("config", .int 4)] K σ :=
 let ⟨_,_,D,hb⟩:=C.shape
 az.out (call_cls C.c.ok rfl λa ha=>Db C.c.ok (DI C.c.ok) D7 C.c.hg D (hb (.ref a)) rfl (d7 (d7 (d7 (d7 (d7 (d7 (d7 (d7 (d7 (d7 (d7 ⟨rfl,⟨_,σ,my ha, .inst bU ha (qc.refl _),h⟩⟩))))))))))))
theorem adx(h:∀m r σ',σ m=none->σ r=none->m≠r->jH σ' m r false->(∀x,x≠m->x≠r->σ' x=σ x)->K (.ref m) σ'):az X (n+2) (.ref 641) [] [] K σ:=by
 obtain ⟨fd,lam,D,hb⟩:=C.ranges;refine call_cls C.c.ok rfl λm hm=>Db C.c.ok (DI C.c.ok) D7 C.c.hg D (hb (.ref m)) rfl (.own lk λr hr=> ?_);obtain ⟨Fg,hr⟩:=mz (σ:=σ) (a:=m) (o:= .inst 641 []) hr;exact j7 ((bA Fg.symm).trans bU) ⟨[],dW,rfl,h m r _ hm hr Fg.symm ⟨bU,(bA Fg).trans bU⟩ λx h1 h2=>(bA h1).trans ((bA h2).trans (bA h1))⟩
theorem ady{z:Nat}(hn:z≤1000)(h:∀d b w σ',σ d=none->σ b=none->σ w=none->d≠b->d≠w->b≠w->f7 σ' d b w false 0 0 (cf (4*z) 0) []->(∀x,x≠d->x≠b->x≠w->σ' x=σ x)->K (.ref d) σ'):az X (n+2) (.ref 436) [.n z,dv] [] K σ:=by
 refine call_cls C.c.ok rfl λd hd=>C.c.call 40 rfl rfl (d7 ⟨sm hn, ?_⟩);refine (?_:az X n (.raw (.type "bytearray")) [.int ((z:Int)*4)] [] _ _);refine aa (MV ..) (Ze (eh _) (dT.mpr (ag (c8 4 hn) (by decide))) λb hb=> ?_);obtain ⟨AL,hb⟩:=mz (σ:=σ) (a:=d) (o:= .inst 436 _) hb;refine j7 ((bA AL.symm).trans bU) (.own lk λw hw=> ?_);obtain ⟨Fh,hw⟩:=mz (σ:=(σ.set d (.inst 436 _)).set b (.dh _)) (a:=d) (o:= .inst 436 _) hw;obtain ⟨xl,hw⟩:=mz (σ:=σ.set d (.inst 436 _)) (a:=b) (o:= .dh _) hw;obtain ⟨_,hw⟩:=mz (σ:=σ) (a:=d) (o:= .inst 436 _) hw;refine j7 ((bA Fh.symm).trans bU) (d7 (d7 (d7 ⟨rfl,h d b w _ hd hb hw AL.symm Fh.symm xl.symm ⟨bU, ?_,(bA Fh).trans bU⟩ λx h1 h2 h3=>(bA h1).trans ((bA h3).trans ((bA h1).trans ((bA h2).trans (bA h1))))⟩)));exact (bA AL).trans ((bA xl.symm).trans ((bA AL).trans bU))
theorem adz{d:Addr}{g:Int}(h:∀a m r σ',σ a=none->σ m=none->σ r=none->a≠m->a≠r->m≠r->σ' a=some (.inst 739 (qv d g m))->jH σ' m r false->(∀x,x≠a->x≠m->x≠r->σ' x=σ x)->K (.ref a) σ'):az X (n+4) (.ref 739) [.ref d, .int g,dv] [] K σ:=by
 refine call_cls C.c.ok rfl λa ha=>C.c.call 61 rfl rfl (d7 (d7 (d7 (adx C λm r σ' hm hr adA R hk=> ?_))));obtain ⟨vP,hm⟩:=mz (σ:=σ) (a:=a) (o:= .inst 739 _) hm;obtain ⟨sj,hr⟩:=mz (σ:=σ) (a:=a) (o:= .inst 739 _) hr;exact j7 ((hk a vP.symm sj.symm).trans bU) ⟨rfl,h a m r _ ha hm hr vP.symm sj.symm adA bU ⟨(bA vP).trans R.m,(bA sj).trans R.r⟩ λx h1 h2 h3=>(bA h1).trans ((hk x h2 h3).trans (bA h1))⟩
theorem adB(h:K (b0 ls p) σ):az X (n+2) (.ref 338) [.list (ls.map .ref), .n p, .int 7,dv] [] K σ :=
 az.out (call_cls C.c.ok rfl λa ha=>C.c.call 26 rfl rfl (d7 (d7 (d7 (d7 ⟨rfl,⟨_,σ,my ha, .inst bU ha (qc.refl _),h⟩⟩)))))
end
section
variable {which:List Nat}
theorem AM(key:α->Nat)(g:α->Lf->Lf)(f:List Lf->α->List Lf)(hf:∀Ls x,f Ls x=Ls.set (key x) (g x (Ls.getD (key x) ax)))(zs:List α):∀(Ls:List Lf),(zs.map key).Nodup->(∀x∈zs,key x<Ls.length)->
  (zs.foldl f Ls).length=Ls.length/\(∀x∈zs,(zs.foldl f Ls).getD (key x) ax=g x (Ls.getD (key x) ax))/\∀k,k∉zs.map key->(zs.foldl f Ls).getD k ax=Ls.getD k ax:=by
 induction zs with
 | nil=>exact λJ J J=>⟨rfl,λJ h=>absurd h dJ,λJ J=>rfl⟩
 | cons x zs ih =>
  intro Ls hn hl;rw [eN,fW] at hn
  have aR:(f Ls x).length=Ls.length:=aa (hf ..) (aa kl rfl)
  have H:=ih (f Ls x) hn.2 λy hy=>by refine aa aR ?_;exact hl y (.tail _ hy)
  have h3:=H.2.2
  have hx:(f Ls x).getD (key x) ax=g x (Ls.getD (key x) ax):=aa (hf ..) (aa oN (aa (if_pos ⟨rfl,hl x (.head _)⟩) rfl))
  have ho:∀k,k≠key x->(f Ls x).getD k ax=Ls.getD k ax:=λk hk=>aa (hf ..) (aa oN (aa (if_neg (λh=>hk h.1.symm)) rfl))
  refine aa mq (⟨H.1.trans aR,λy hy=> ?_,λk hk=> ?_⟩)
  ·rcases bq.mp hy with rfl | hy
   ·exact aa (h3 _ hn.1) (aa hx rfl)
   ·have bt:key y≠key x:=λe=>hn.1 (ao e (nj hy))
    exact aa (H.2.1 y hy) (aa (ho _ bt) rfl)
  ·rw [eN,bq,not_or] at hk
   exact aa (h3 k hk.2) (aa (ho k hk.1) rfl)
noncomputable abbrev ck(x:CP):Nat:=x.1.1
section
variable{Ls:List Lf}{zs:List CP}(hn:(zs.map ck).Nodup)(hl:∀x∈zs,ck x<Ls.length)
include hn hl
theorem AN(cy:Int):(iB cy zs Ls).length=Ls.length/\(∀x∈zs,(iB cy zs Ls).getD (ck x) ax=eQ cy (Ls.getD (ck x) ax) x.2 x.1.2.2.1)/\∀k,k∉zs.map ck->(iB cy zs Ls).getD k ax=Ls.getD k ax :=
 AM ck (λx L=>eQ cy L x.2 x.1.2.2.1) (lG cy) (λJ J=>rfl) zs Ls hn hl
theorem Fi(which:List Nat):(kK which zs Ls).length=Ls.length/\(∀x∈zs,(kK which zs Ls).getD (ck x) ax=if ck x∈which then eQ 0 (Ls.getD (ck x) ax) x.2 x.1.2.2.1 else Ls.getD (ck x) ax)/\∀k,k∉zs.map ck->(kK which zs Ls).getD k ax=Ls.getD k ax :=
 AM ck (λx L=>if ck x∈which then eQ 0 L x.2 x.1.2.2.1 else L) (oP which) (λLs x=>by
  refine (?_:oP which Ls x=Ls.set (ck x) (if ck x∈which then eQ 0 (Ls.getD (ck x) ax) x.2 x.1.2.2.1 else Ls.getD (ck x) ax))
  by_cases h:ck x∈which
  ·rewrite [oP];refine aH (if_pos h) (if_pos h) ?_;rfl
  ·rewrite [oP];refine aH (if_neg h) (if_neg h) ?_;exact set_same.symm) zs Ls hn hl
end
theorem Ng{pt:List Pt}(eJ:List Nat)(hn:(pt.map (λz=>z.1)).Nodup)(hl:∀x∈pt,x.1<Ls.length):(jJ pt eJ Ls).length=Ls.length/\(∀x∈pt,(jJ pt eJ Ls).getD x.1 ax=if x.1∈eJ then eQ 0 (Ls.getD x.1 ax) (gX (Ls.getD x.1 ax).cont) x.2.2 else Ls.getD x.1 ax)/\∀k,k∉pt.map (λz=>z.1)->(jJ pt eJ Ls).getD k ax=Ls.getD k ax :=
 AM (λx:Pt=>x.1) (λx L=>if x.1∈eJ then eQ 0 L (gX L.cont) x.2.2 else L) (oW eJ) (λLs x=>by
  refine (?_:oW eJ Ls x=Ls.set x.1 (if x.1∈eJ then eQ 0 (Ls.getD x.1 ax) (gX (Ls.getD x.1 ax).cont) x.2.2 else Ls.getD x.1 ax))
  by_cases h:x.1∈eJ
  ·rewrite [oW];exact aH (if_pos h) (if_pos h) rfl
  ·rewrite [oW];refine aH (if_neg h) (if_neg h) ?_;exact set_same.symm) pt Ls hn hl
theorem uI(v:Bool)(hn:which.Nodup)(hl:∀k∈which,k<Ls.length):(f9 which v Ls).length=Ls.length/\∀k,(f9 which v Ls).getD k ax=if k∈which then {Ls.getD k ax with out:=v} else Ls.getD k ax:=by
 obtain ⟨h1,h2,h3⟩:=AM (λk:Nat=>k) (λJ L=>{L with out:=v}) (AH v) (λJ J=>rfl) which Ls (by simpa using hn) hl;refine ⟨h1,λk=> ?_⟩
 split
 ·exact h2 k ‹_›
 ·exact h3 k (by simpa using ‹k∉which›)
theorem AO{v:Bool}{n:Nat}(h:dg Ls n):dg (f9 which v Ls) n:=by
 unfold f9
 induction which generalizing Ls with
 | nil=>exact h
 | cons k which ih =>
  refine ih λj=> ?_;unfold AH;refine aa oN ?_
  split
  ·exact h k
  ·exact h j
theorem Nh{c:Prop} [Decidable c]{A B:List Lf}{n:Nat}(h:dg A (n+10))(h':dg B n):dg (if c then A else B) (n+10):=if q:c then aa (if_pos q) h else aa (if_neg q) λk=>ag (h' k) (b6 ..)
theorem Fj{P:α->Prop}{f:List Lf->α->List Lf}(st:∀{Ls:List Lf} {n:Nat} {x:α},dg Ls n->P x->dg (f Ls x) (n+10)){zs:List α}:∀{Ls:List Lf} {n:Nat},dg Ls n->(∀x∈zs,P x)->dg (zs.foldl f Ls) (n+10*zs.length):=by
 induction zs with
 | nil=>exact λh J=>h
 | cons x zs ih=>exact λ{Ls n} h hx k=>ag (ih (st h (hx x (.head _))) (λy hy=>hx y (.tail _ hy)) k) (bS ((j9 ..).trans (congrArg _ (lg ..))))
theorem adC{zs:List CP}{n:Nat}(h:dg Ls n)(hx:∀x∈zs,x.1.2.2.1≤10):dg (kK which zs Ls) (n+10*zs.length) :=
 Fj (f:=oP which) (λ{Ls n x} h q=>Nh (AD h q) h) h hx
theorem aip{cy:Int}{zs:List CP}{n:Nat}(h:dg Ls n)(hx:∀x∈zs,x.1.2.2.1≤10):dg (iB cy zs Ls) (n+10*zs.length) :=
 Fj (f:=lG cy) (λh q=>AD h q) h hx
theorem adD{eJ:List Nat}{pt:List Pt}{n:Nat}(h:dg Ls n)(hx:∀x∈pt,x.2.2≤10):dg (jJ pt eJ Ls) (n+10*pt.length) :=
 Fj (f:=oW eJ) (λ{Ls n x} h q=>Nh (AD (cy:=0) (x:=((x.1,x.2.1,x.2.2,0),gX (Ls.getD x.1 ax).cont)) h q) h) h hx
structure c6(S:Nat)(ws:List (Nat×Nat))(ls:List Addr)(p s size:Nat)(af:List bG)(ak:List UInt8):Prop where
 B:ny S ws ls p s size af
 tl:ak.length=size
 ln:(aF ak af p).length=af.length
 cp:EV ws ls (aA af (aF ak af p))
 nd:(af.map (λz=>z.1)).Nodup
 pos:∀c∈af,1≤c.2.2.1
 acc:∀(Ls:List Lf) (bad:List Nat),(∀c∈af,(Ls.getD c.1 ax).cont.length=4*c.2.2.1)->bad.length≤p->(∀x∈aA af (aF ak af p),ck x∉bad->(Ls.getD (ck x) ax).out=false/\(Ls.getD (ck x) ax).cont=x.2)->Acc af p size ak (bp Ls af)
 plain:∀Ls:List Lf,(∀x∈(aA af (aF ak af p)).drop p,(Ls.getD (ck x) ax).out=false/\(Ls.getD (ck x) ax).cont=x.2)->nA size ak (bp Ls (af.drop p))
 adE:∀Ls:List Lf,(∀x∈(aA af (aF ak af p)).drop p,(Ls.getD (ck x) ax).cont=x.2∨(Ls.getD (ck x) ax).cont=gX x.2)->(∃x∈(aA af (aF ak af p)).drop p,(Ls.getD (ck x) ax).cont=gX x.2)->¬ nA size ak (bp Ls (af.drop p))
end
section
variable {hm ou:List Nat}
theorem Fk(l:List Nat):(bz l).Perm l:=by
 have h:=(rS (l.map λ(x:Nat)=>(x:Int))).map MZ
 rw [dj] at h
 exact h.trans (by rw [show (MZ ∘ λ(x:Nat)=>(x:Int))=id from rfl,K3])
theorem Ni{l l':List Nat}(h:l.Perm l'):bz l=bz l':=by
 unfold bz;exact congrArg _ (Lc ((rS _).trans ((h.map _).trans (rS _).symm)) (zN _) (zN _))
theorem Nj(l:List Nat):bz (bz l)=bz l:=Ni (Fk l)
theorem adF{l l':List Nat}(h:l.Nodup)(h':l'.Nodup)(e:∀a,a∈l↔a∈l'):bz l=bz l':=Ni ((Fl h h').mpr e)
theorem oY{l:List Nat}{a:Nat}:a∈bz l↔a∈l:=(Fk l).mem_iff
theorem AP{l:List Nat}(h:l.Nodup):(bz l).Nodup:=(Fk l).nodup_iff.mpr h
def fK(Ls:List Lf)(zs:List CP)(hm ou:List Nat):Prop:=∀x∈zs,(Ls.getD (ck x) ax).out=decide (ck x∈ou)/\(Ls.getD (ck x) ax).cont=if ck x∈hm then gX x.2 else x.2
theorem adG(h:b≠ []):gX b≠b:=by
 cases b with
 | nil=>exact absurd rfl h
 | cons x b =>
  intro e;unfold gX at e
  rw [eN] at e
  injection e with e1 _
  have:∀x:Fin 256,(255 - kF x.1)≠kF x.1:=by decide +kernel
  have h2:=this ⟨x.toNat,qi x⟩
  simp only [adH] at h2
  exact h2 e1
noncomputable def xD(Ls:List Lf)(x:CP):Option Nat:=if (Ls.getD (ck x) ax).out=false/\(Ls.getD (ck x) ax).cont≠x.2 then some (ck x) else none
theorem adI{c:bG}{q:List UInt8}:uE (c,dX (Ls.getD c.1 ax),q)=xD Ls (c,q):=by
 unfold uE xD dX ck;dsimp only;rcases (Ls.getD c.1 ax).out with _ | _
 ·by_cases h:(Ls.getD c.1 ax).cont=q<;>simp [h]
 ·rfl
theorem Fm(Ls:List Lf)(af:List bG):∀aV:List (List UInt8),mE af (bp Ls af) aV=(aA af aV).filterMap (xD Ls):=by
 induction af with
 | nil=>exact λJ=>rfl
 | cons c af ih =>
  intro aV;rcases aV with _ | ⟨q,aV⟩
  ·rfl
  have ih:=ih aV
  unfold mE at ih ⊢
  rw [show bp Ls (c::af)=dX (Ls.getD c.1 ax)::bp Ls af from rfl,tP,tP,tP,lz,lz,ih,adI]
theorem uJ{zs:List CP}{f:CP->Prop} [DecidablePred f]{a:Nat}:a∈zs.filterMap (λx=>if f x then some (ck x) else none)↔∃x∈zs,f x/\ck x=a:=by
 rw [oE]
 constructor
 ·rintro ⟨x,hx,e⟩
  split at e
  ·cases e;exact ⟨x,hx,‹_›,rfl⟩
  ·cases e
 ·rintro ⟨x,hx,h,rfl⟩
  exact ⟨x,hx,if_pos h⟩
theorem xF{zs:List CP}{f:CP->Prop} [DecidablePred f](h:(zs.map ck).Nodup):(zs.filterMap (λx=>if f x then some (ck x) else none)).Nodup:=by
 induction zs with
 | nil=>exact ye
 | cons x zs ih =>
  rw [eN,fW] at h
  by_cases q:f x
  ·refine aa lz ?_;simp only [if_pos q];rw [fW];refine ⟨λhm=> ?_,ih h.2⟩;obtain ⟨y,hy,_,e⟩:=uJ.mp hm;exact h.1 (ao e (nj hy))
  ·refine aa lz ?_;simp only [if_neg q];exact ih h.2
theorem adJ{n:Nat}{g:List Nat}(h:p<g.length):kL n g p= []:=by
 unfold kL jD;refine aa (if_neg (C4.mpr h)) ?_;rfl
theorem adK(Ls:List Lf)(af:List bG):(gV (bp Ls af)).length=(af.filter λc=>(Ls.getD c.1 ax).out).length:=by
 unfold gV bp
 suffices ∀i,(((af.map λc=>dX (Ls.getD c.1 ax)).zipIdx i).filterMap λx=>if x.1.isSome then none else some x.2).length=(af.filter λc=>(Ls.getD c.1 ax).out).length from this 0
 induction af with
 | nil=>intro i;rfl
 | cons c af ih =>
  intro i;refine aa eN (aa DL (aa lz (aa List.filter_cons ?_)));cases q:(Ls.getD c.1 ax).out with
  | true =>
   have e:dX (Ls.getD c.1 ax)=none:=by unfold dX;refine aa q ?_;rfl
   exact aa e (congrArg (λz=>z +1) (ih (i+1)))
  | false =>
   have e:dX (Ls.getD c.1 ax)=some (Ls.getD c.1 ax).cont:=by unfold dX;refine aa q ?_;rfl
   exact aa e (ih (i+1))
theorem AQ{l:List Nat}:∀{l':List Nat},l.Nodup->(∀a∈l,a∈l')->l.length≤l'.length:=by
 induction l with
 | nil=>exact λJ J=>da _
 | cons a l ih =>
  intro l' h hs
  have h:=fW.mp h
  have ha:=hs a (.head _)
  have i:=ih (l':=l'.erase a) h.2 λb hb=>(List.mem_erase_of_ne (λe:b=a=>h.1 (ao e hb))).mpr (hs b (.tail _ hb))
  rw [List.length_erase_of_mem ha] at i
  exact ag (fO i) (bS (TH (List.length_pos_of_mem ha)))
section
variable{S:Nat}{ws:List (Nat×Nat)}{ls:List Addr}{p s size:Nat}{af:List bG}{ak:List UInt8}(O:c6 S ws ls p s size af ak)
include O
theorem c6.keys:(aA af (aF ak af p)).map ck=af.map (λz=>z.1):=by
 have h:=O.ln
 generalize aF ak af p=aV at h ⊢
 clear O
 induction af generalizing aV with
 | nil=>rfl
 | cons c af ih=>cases aV with
  | nil=>simp at h
  | cons q aV=>exact congrArg (ug _) (ih aV (by simpa using h))
theorem c6.lI:((aA af (aF ak af p)).map ck).Nodup:=aa O.keys O.nd
theorem c6.lJ{x:CP}(hx:x∈aA af (aF ak af p)):ck x<ls.length/\x.2≠ []/\x.2.length=4*x.1.2.2.1/\x.1.2.2.1≤10/\ws.getD (ck x) (0,0)=(x.1.2.1,x.1.2.2.1):=by
 obtain ⟨h1,h2,h3⟩:=O.cp x hx
 have:=O.pos x.1 (iz hx).1
 exact ⟨h1.1,λe=>fH (Nk (nb rfl) this) (h2.symm.trans (congrArg rO e)),h2,h3,h1.2⟩
theorem c6.col{c:bG}(hc:c∈af):∃x∈aA af (aF ak af p),x.1=c:=by
 obtain ⟨i,hi⟩:=p7.mp hc
 have iY:=(dr.mp hi).1
 have hq:(aF ak af p)[i]? =some _:=bE (aa O.ln iY)
 exact ⟨(c,_),cr (sC.mpr ⟨hi,hq⟩),rfl⟩
theorem c6.Nl(D:fK Ls (aA af (aF ak af p)) hm ou)(hn:hm.Nodup)(hs:∀a∈hm,a∈af.map (λz=>z.1))(hd:∀a∈hm,a∉ou):bz (mE af (bp Ls af) (aF ak af p))=bz hm:=by
 refine aa (Fm ..) (adF (xF O.lI) hn λa=> ?_);refine aa (show (aA af (aF ak af p)).filterMap (xD Ls)=(aA af (aF ak af p)).filterMap λx=>if (Ls.getD (ck x) ax).out=false/\(Ls.getD (ck x) ax).cont≠x.2 then some (ck x) else none from rfl) ?_;rewrite [uJ]
 constructor
 ·rintro ⟨x,hx,⟨h1,h2⟩,rfl⟩
  by_cases q:ck x∈hm
  ·exact q
  ·rw [(D x hx).2,if_neg q] at h2;exact absurd rfl h2
 ·intro ha;obtain ⟨c,hc,rfl⟩:=bF.mp (hs a ha);obtain ⟨x,hx,rfl⟩:=O.col hc;refine ⟨x,hx,⟨?_, ?_⟩,rfl⟩
  ·exact aa ((D x hx).1) (df (hd _ ha))
  ·refine aa ((D x hx).2) (aa (if_pos ha) ?_);exact adG (O.lJ hx).2.1
theorem c6.yes(D:fK Ls (aA af (aF ak af p)) hm ou)(h:hm.length+ou.length≤p):Acc af p size ak (bp Ls af):=by
 refine O.acc Ls (hm++ou) (λc hc=> ?_) (aa de h) λx hx hb=> ?_
 ·obtain ⟨x,hx,rfl⟩:=O.col hc
  have:=(O.lJ hx).2.2.1
  refine (?_:(Ls.getD (ck x) ax).cont.length=_);refine aa ((D x hx).2) ?_
  split
  ·exact aa (uG ..) this
  ·exact this
 ·rw [jg,not_or] at hb
  refine aH ((D x hx).1) ((D x hx).2) (aa (if_neg hb.1) ?_);exact ⟨df hb.2,rfl⟩
theorem c6.no(D:fK Ls (aA af (aF ak af p)) hm ou)(hn:ou.Nodup)(hs:∀a∈ou,a∈af.map (λz=>z.1))(h:p<ou.length):¬ Acc af p size ak (bp Ls af):=by
 rintro ⟨ar,hl,_⟩
 have c9:ou.length≤(gV (bp Ls af)).length:=by
  refine aa (adK ..) (ao (aC (f:=λc:bG=>c.1)) ?_);refine AQ hn λa ha=> ?_;obtain ⟨c,hc,rfl⟩:=bF.mp (hs a ha);obtain ⟨x,hx,rfl⟩:=O.col hc;refine bF.mpr ⟨x.1,Bq.mpr ⟨hc, ?_⟩,rfl⟩
  have:=(D x hx).1
  rw [dt ha] at this
  exact this
 rw [adJ (et h c9)] at hl
 cases hl
end
end
def xG(pt:List Pt)(x:Int)(p k:Nat)(q:List Nat×List Nat):Prop:=(q.1++q.2).Nodup/\(∀a∈q.1++q.2,a∈pt.map (λz=>z.1))/\q.1.length+q.2.length≤k/\((p:Int)<x.fmod (p+2)->q.1= [])
theorem xG.push{pt:List Pt}{x:Int}{c:Nat}{q q':List Nat×List Nat}(h:xG pt x p k q)(hn:c∉q.1++q.2)(hc:c∈pt.map (λz=>z.1))(P:(q'.1++q'.2).Perm (c::(q.1++q.2)))(e:(p:Int)<x.fmod (p+2)->q'.1= []):xG pt x p (k+1) q' :=
 ⟨P.nodup_iff.mpr (fW.mpr ⟨hn,h.1⟩),λa ha=>(bq.mp (P.mem_iff.mp ha)).elim (λe=>e▸hc) (h.2.1 a),de▸P.length_eq▸fO (de▸h.2.2.1),e⟩
theorem mod_lt{x:Int}{n:Nat}(h:0<n):(x.fmod n).toNat<n:=by
 have h':=il.mpr h
 exact aa (tr _ (n8 h')) ((JQ (Fc _ (Fd h'))).mpr (Fe _ h'))
theorem adL{pt:List Pt}{x:Int}(fi:0<pt.length)(k:Nat):xG pt x p k ((aK k).foldl (kM pt x p most) ([],[])):=by
 induction k with
 | zero=>exact ⟨ye,λJ h=>absurd h dJ,cb _,λJ=>rfl⟩
 | succ k ih =>
  refine aa zW (aa rM ?_);refine (?_:xG pt x p (k+1) (kM pt x p most _ k));generalize (aK k).foldl (kM pt x p most) ([],[])=q at ih
  have hj:=mod_lt (x:=(x.fdiv 7).fdiv (5^k)) fi
  unfold kM;dsimp only;generalize (((x.fdiv 7).fdiv (5^k)).fmod pt.length).toNat=j at hj
  have hc:(pt.getD j (0,0,0)).1∈pt.map (λz=>z.1):=by refine aa (cZ hj) ?_;exact nj (mu hj)
  generalize (pt.getD j (0,0,0)).1=c at hc
  by_cases hn:c∈q.1++q.2
  ·exact aa (if_pos hn) (⟨ih.1,ih.2.1,mi ih.2.2.1,ih.2.2.2⟩)
  refine aa (if_neg hn) ?_
  split
  ·next hq=>exact ih.push hn hc (lb .. ▸List.perm_middle) λh=>absurd h (jU.mpr hq.2.2)
  ·exact ih.push hn hc ((lb ..).symm▸ab6 ..) ih.2.2.2
noncomputable abbrev bP(c:bG):Pt:=(c.1,c.2.1,c.2.2.1)
theorem Nm:∀l:List Nat,jk gf (l.map .n) (l.map .n)=some true:=by
 intro l
 induction l with
 | nil=>rfl
 | cons x l ih =>
  refine (?_:((gf (.n x) (.n x)).bind λa=>(jk gf (l.map .n) (l.map .n)).map λb=>a&&b)=_);refine aa ih (?_:some (decide ((x:Int)=x)&&true)=_)
  simp
theorem Nn{f g:ab->ab->Option Bool}:∀{vs ws:List ab},(∀v∈vs,∀w,f v w=g v w)->jk f vs ws=jk g vs ws:=by
 intro vs
 induction vs with
 | nil=>exact λ{ws} J=>by cases ws<;>rfl
 | cons v vs ih =>
  intro ws h;rcases ws with _ | ⟨w,ws⟩
  ·rfl
  refine (?_:((f v w).bind λa=>(jk f vs ws).map λb=>a&&b)=((g v w).bind λa=>(jk g vs ws).map λb=>a&&b));rewrite [h v (.head _)];exact aa (ih λx hx=>h x (.tail _ hx)) rfl
theorem No{a:List UInt8}{l:List Nat}:vh (.tuple [.bytes a,aJ l]) (.tuple [.bytes a,aJ l])=some true:=by
 have e:kf 2 (aJ l) (aJ l)=some true:=by
  refine (?_:(if (l.map ab.n).length=(l.map ab.n).length then jk (kf 1) (l.map .n) (l.map .n) else some false)=_);refine aa (if_pos rfl) (aa (Nn (g:=gf) λv hv w=>by obtain ⟨x,_,rfl⟩:=bF.mp hv;rfl) ?_);exact Nm l
 refine (?_:((kf 2 (.bytes a) (.bytes a)).bind λa=>(((kf 2 (aJ l) (aJ l)).bind λa=>(some true).map λb=>a&&b)).map λb=>a&&b)=_);refine aa e (?_:some (decide (a=a)&&(true&&true))=_)
 simp
theorem Np{a:List UInt8}{l:List Nat}{k:Bool->Prop}(h:k false):bB (nT σ .NotEq (.tuple [.bytes a,aJ l]) (.tuple [.bytes a,aJ l])) k:=bB.i (show (vh (.tuple [.bytes a,aJ l]) (.tuple [.bytes a,aJ l])).map (λz=>!z)=some false by refine aa No ?_;rfl) h
theorem aiq{a:List UInt8}{l:List Nat}{k:Bool->Prop}(h:k true):bB (nT σ .Eq (.tuple [.bytes a,aJ l]) (.tuple [.bytes a,aJ l])) k:=bB.i (show vh _ _=some true from No) h
section
variable{X:Cx}(C:Ctx X){n:Nat}{K:ab->aq->Prop}{σ:aq}{S:Nat}{ws:List (Nat×Nat)}{ls:List Addr}{Ls:List Lf}{p s size:Nat}{af:List bG}{ak:List UInt8}{hm ou:List Nat}
include C
theorem c6.check(O:c6 S ws ls p s size af ak)(G:bl S ws ls σ Ls)(D:fK Ls (aA af (aF ak af p)) hm ou)(hn:hm.Nodup)(hs:∀a∈hm,a∈af.map (λz=>z.1))(hd:∀a∈hm,a∉ou)(c9:hm.length+ou.length≤p)
  (h:∀σ',bl S ws ls σ' Ls->K (.tuple [.bytes ak,aJ (bz hm)]) σ'):az X (n+9) (.ref 302) [b0 ls p, .n s, .n size, .lam ak] [] K σ :=
 E1 C O.B (ao O.tl.symm O.B.sz) G λσ' G'=>⟨λJ=>by refine aa (O.Nl D hn hs hd) ?_;exact h σ' G',λFo=>absurd (O.yes D c9) Fo⟩
end
def Flags(Ls:List Lf)(U:List Nat):Prop:=∀k,(Ls.getD k ax).out=decide (k∈U)/\(Ls.getD k ax).c4=false
theorem uK(L:Lf)(part:List UInt8)(m:Nat):(eQ 0 L part m).out=L.out/\(eQ 0 L part m).c4=L.c4:=by
 unfold eQ
 split
 ·exact ⟨rfl,by show (L.c4 || decide ((0:Int)=9))=_;exact aa (df (by decide)) (aa (acI ..) rfl)⟩
 ·exact ⟨rfl,rfl⟩
theorem Nq(Ls:List Lf)(which:List Nat)(zs:List CP):oQ Ls which zs=(zs.filterMap λx=>if ck x∈which/\(Ls.getD (ck x) ax).out=false then some (ck x) else none).length:=by
 unfold oQ
 suffices ∀n,zs.foldl (λn x=>if x.1.1∈which/\(Ls.getD x.1.1 ax).out=false then n+1 else n) n=n+(zs.filterMap λx=>if ck x∈which/\(Ls.getD (ck x) ax).out=false then some (ck x) else none).length by simpa using this 0
 induction zs with
 | nil=>intro n;rfl
 | cons x zs ih =>
  intro n;refine aH mq lz (aa (ih ..) ?_)
  by_cases q:ck x∈which/\(Ls.getD (ck x) ax).out=false
  ·simp only [if_pos q,nS];exact qG ..
  ·simp only [if_neg q]
section
variable{S:Nat}{ws:List (Nat×Nat)}{ls:List Addr}{Ls:List Lf}{p s size:Nat}{af:List bG}{ak:List UInt8}{H U:List Nat}(O:c6 S ws ls p s size af ak)
include O
theorem c6.adM(D:fK Ls (aA af (aF ak af p)) H U)(hn:H.Nodup)(hs:∀a∈H,a∈af.map (λz=>z.1))(hd:∀a∈H,a∉U):oQ Ls H (aA af (aF ak af p))=H.length:=by
 refine aa (Nq ..) (((Fl (xF O.lI) hn).mpr λa=> ?_).length_eq);rw [uJ]
 constructor
 ·rintro ⟨x,_,h,rfl⟩;exact h.1
 ·intro ha;obtain ⟨c,hc,rfl⟩:=bF.mp (hs a ha);obtain ⟨x,hx,rfl⟩:=O.col hc;exact ⟨x,hx,⟨ha,aa ((D x hx).1) (df (hd _ ha))⟩,rfl⟩
theorem c6.adN(dG:Ls.length=ls.length)(D:fK Ls (aA af (aF ak af p)) H U)(hd:∀a∈H,a∉U):fK (kK H (aA af (aF ak af p)) Ls) (aA af (aF ak af p)) [] U:=λx hx=>by
 obtain ⟨_,h2,_⟩:=Fi O.lI (λx hx=>aa dG ((O.lJ hx).1)) H
 have e0:(if ck x∈([]:List Nat) then gX x.2 else x.2)=x.2:=if_neg (by simp)
 refine aH (h2 x hx) e0 ?_
 by_cases q:ck x∈H
 ·refine aa (if_pos q) (⟨(uK _ _ _).1.trans (D x hx).1, ?_⟩);unfold eQ;exact congrArg _ (if_neg (by rw [(D x hx).1,df (hd _ q)];decide))
 ·exact aa (if_neg q) (⟨(D x hx).1,aa ((D x hx).2) (aa (if_neg q) rfl)⟩)
theorem c6.adO(dG:Ls.length=ls.length)(F:Flags Ls U)(which:List Nat):Flags (kK which (aA af (aF ak af p)) Ls) U:=λk=>by
 obtain ⟨_,h2,h3⟩:=Fi O.lI (λx hx=>aa dG ((O.lJ hx).1)) which
 by_cases q:k∈(aA af (aF ak af p)).map ck
 ·obtain ⟨x,hx,rfl⟩:=bF.mp q;refine aa (h2 x hx) ?_
  split
  ·exact aH ((uK _ _ _).1) ((uK _ _ _).2) (F _)
  ·exact F _
 ·exact aa (h3 k q) (F k)
theorem c6.adP(dG:Ls.length=ls.length)(D:fK Ls (aA af (aF ak af p)) [] []):fK (jJ (af.map bP) H Ls) (aA af (aF ak af p)) H []:=λx hx=>by
 have d4:((af.map bP).map (λz=>z.1)).Nodup:=aa dj O.nd
 obtain ⟨_,h2,_⟩:=Ng H (Ls:=Ls) d4 λy hy=>by
  obtain ⟨c,hc,rfl⟩:=bF.mp hy;exact aa dG ((O.B.jI c hc).1)
 have h:=h2 (bP x.1) (nj (iz hx).1)
 refine (?_:((jJ (af.map bP) H Ls).getD (bP x.1).1 ax).out=_/\((jJ (af.map bP) H Ls).getD (bP x.1).1 ax).cont=_);refine aa h ?_;obtain ⟨d1,d2⟩:=D x hx;rw [if_neg (by simp)] at d2
 by_cases q:ck x∈H
 ·refine aH (if_pos q) (if_pos q) (⟨(uK _ _ _).1.trans d1, ?_⟩);unfold eQ;refine aa (if_neg (by show ¬ (Ls.getD (ck x) ax).out=true;rw [d1];simp)) (?_:gX (Ls.getD (ck x) ax).cont=_);exact congrArg _ d2
 ·exact aH (if_neg q) (if_neg q) (⟨d1,d2⟩)
theorem c6.adQ(dG:Ls.length=ls.length)(F:Flags Ls []):Flags (jJ (af.map bP) H Ls) []:=λk=>by
 have d4:((af.map bP).map (λz=>z.1)).Nodup:=aa dj O.nd
 obtain ⟨_,h2,h3⟩:=Ng H (Ls:=Ls) d4 λy hy=>by
  obtain ⟨c,hc,rfl⟩:=bF.mp hy;exact aa dG ((O.B.jI c hc).1)
 by_cases q:k∈(af.map bP).map (λz=>z.1)
 ·obtain ⟨y,hy,rfl⟩:=bF.mp q;refine aa (h2 y hy) ?_
  split
  ·exact aH ((uK _ _ _).1) ((uK _ _ _).2) (F _)
  ·exact F _
 ·exact aa (h3 k q) (F k)
omit O in
theorem adR{zs:List CP}(hn:U.Nodup)(hl:∀k∈U,k<Ls.length)(D:fK Ls zs H []):fK (f9 U true Ls) zs H U:=λx hx=>by
 refine aa ((uI true hn hl).2 ..) ?_;obtain ⟨d1,d2⟩:=D x hx
 split
 ·rename_i q;exact ⟨(dt q).symm,d2⟩
 ·rename_i q;refine aa (df q) ?_;exact ⟨d1.trans (df (by simp)),d2⟩
omit O in
theorem Nr{zs:List CP}(hn:U.Nodup)(hl:∀k∈U,k<Ls.length)(D:fK Ls zs H U):fK (f9 U false Ls) zs H []:=λx hx=>by
 refine aa ((uI false hn hl).2 ..) ?_;obtain ⟨d1,d2⟩:=D x hx
 split
 ·exact ⟨(df (by simp)).symm,d2⟩
 ·rename_i q;rw [df q] at d1;exact ⟨d1.trans (df (by simp)).symm,d2⟩
omit O in
theorem Nt(hn:U.Nodup)(hl:∀k∈U,k<Ls.length)(F:Flags Ls []):Flags (f9 U true Ls) U:=λk=>by
 refine aa ((uI true hn hl).2 ..) ?_
 split
 ·rename_i q;exact ⟨(dt q).symm,(F k).2⟩
 ·rename_i q;refine aa (df q) ?_;exact ⟨(F k).1.trans (df (by simp)),(F k).2⟩
omit O in
theorem Nu(hn:U.Nodup)(hl:∀k∈U,k<Ls.length)(F:Flags Ls U):Flags (f9 U false Ls) []:=λk=>by
 refine aa ((uI false hn hl).2 ..) ?_
 split
 ·exact ⟨(df (by simp)).symm,(F k).2⟩
 ·rename_i q;have:=(F k).1;rw [df q] at this;exact ⟨this.trans (df (by simp)).symm,(F k).2⟩
theorem c6.Fp(D:fK Ls (aA af (aF ak af p)) H U):nA size ak (bp Ls (af.drop p))↔(((af.map bP).drop p).map λx=>decide (x.1∉H++U)).all id=true:=by
 have hz:(aA af (aF ak af p)).drop p=aA (af.drop p) ((aF ak af p).drop p):=by rewrite [aA];exact aa adS rfl
 have mJ:(((af.map bP).drop p).map λx=>decide (x.1∉H++U)).all id=true↔∀c∈af.drop p,c.1∉H++U:=by
  refine ao abJ (aa dj (aa GU ?_));rewrite [fx];exact ⟨λh c hc=>by simpa using h c hc,λh c hc=>by simpa using h c hc⟩
 have adT:∀c∈af.drop p,∃x∈(aA af (aF ak af p)).drop p,x.1=c:=λc hc=>by
  obtain ⟨i,hi⟩:=p7.mp hc
  have iY:=(dr.mp hi).1
  have hq:((aF ak af p).drop p)[i]? =some _:=bE (by rw [f0] at iY ⊢;refine aa O.ln ?_;exact iY)
  exact aa hz (⟨(c,_),cr (sC.mpr ⟨hi,hq⟩),rfl⟩)
 have Nv:∀x∈(aA af (aF ak af p)).drop p,x.1∈af.drop p:=λx hx=>by rw [hz] at hx;exact (iz hx).1
 rw [mJ]
 constructor
 ·intro hp c hc;rw [jg,not_or];obtain ⟨x,hx,rfl⟩:=adT c hc
  have hu:∀y∈(aA af (aF ak af p)).drop p,ck y∉U:=λy hy hu=>by
   have:=hp.1
   rw [Dw] at this
   refine this (dX (Ls.getD (ck y) ax)) (bF.mpr ⟨y.1,Nv y hy,rfl⟩) ?_;unfold dX;refine aa ((D y (nN hy)).1) (aa (dt hu) ?_);rfl
  refine ⟨λhh=> ?_,hu x hx⟩;refine O.adE Ls (λy hy=> ?_) ⟨x,hx, ?_⟩ hp
  ·refine aa ((D y (nN hy)).2) ?_
   split
   ·exact .inr rfl
   ·exact .inl rfl
  ·exact aa ((D x (nN hx)).2) (aa (if_pos hh) rfl)
 ·intro h;refine O.plain Ls λx hx=> ?_
  have:=h x.1 (Nv x hx)
  rw [jg,not_or] at this
  refine aa ((D x (nN hx)).1) (aa ((D x (nN hx)).2) (aa (if_neg this.1) ?_));exact ⟨df this.2,rfl⟩
end
structure uL(af:List bG)(p:Nat)(H U:List Nat):Prop where
 nH:H.Nodup
 nU:U.Nodup
 sH:bz H=H
 d:∀a∈H,a∉U
 cH:∀a∈H,a∈af.map (λz=>z.1)
 cU:∀a∈U,a∈af.map (λz=>z.1)
 le:H.length+U.length≤p∨(H= []/\p<U.length)
 lH:H.length≤9
 lU:U.length≤9
theorem Nw{x:Int}(xH:0<af.length)(dB:p≤3):uL af p (bz (AG (af.map bP) x p most).1) (bz (AG (af.map bP) x p most).2):=by
 have lf:=adL (pt:=af.map bP) (x:=x) (p:=p) (most:=most) (aa (aC ..) xH) (x.fmod (p+2)).toNat
 refine (?_:uL af p (bz ((aK (x.fmod (p+2)).toNat).foldl (kM (af.map bP) x p most) ([],[])).1) (bz ((aK (x.fmod (p+2)).toNat).foldl (kM (af.map bP) x p most) ([],[])).2));generalize (aK (x.fmod (p+2)).toNat).foldl (kM (af.map bP) x p most) ([],[])=q at lf
 have l1:=L5.mp lf.1
 have l3:=lf.2.2.1
 have xv:∀a∈q.1++q.2,a∈af.map (λz=>z.1):=λa ha=>by have:=lf.2.1 a ha;rw [dj] at this;exact this
 have h9:q.1.length+q.2.length≤9:=ag l3 (ag (Na dB) (nb rfl))
 refine ⟨AP l1.1,AP l1.2.1,Nj q.1,λa ha hb=>l1.2.2 a (oY.mp ha) a (oY.mp hb) rfl,λa ha=>xv a (jg.mpr (.inl (oY.mp ha))),λa ha=>xv a (jg.mpr (.inr (oY.mp ha))), ?_,xt q.1▸ag (b6 ..) h9,xt q.2▸ag (lm ..) h9⟩;refine aH (xt ..) (xt ..) ?_
 by_cases z:q.1.length+q.2.length≤p
 ·exact .inl z
 ·have e:=lf.2.2.2 (Int.lt_toNat.mp (et (EA z) l3))
  rw [e] at z ⊢
  exact .inr ⟨rfl,EA λh=>z (ao ((m4 _).symm) h)⟩
section
variable{X:Cx}(C:Ctx X){n:Nat}{K:ab->aq->Prop}{σ:aq}{S:Nat}{ws:List (Nat×Nat)}{ls:List Addr}{Ls:List Lf}{p s size:Nat}{af:List bG}{ak:List UInt8}{H U:List Nat}
include C
omit C in
theorem Fq(a:List UInt8):(!(decide (a=a)&&(true&&true)))=false:=aa (decide_eq_true rfl) rfl
omit C in
theorem AR(a:List UInt8):(decide (a=a)&&(true&&true))=true:=aa (decide_eq_true rfl) rfl
omit C in
theorem kb{K:ab->aq->Prop}{a b:Bool}(e:a=b)(h:K (.bool b) σ):K (.bool a) σ:=e▸h
theorem c6.adU(O:c6 S ws ls p s size af ak)(G:bl S ws ls σ Ls)(D:fK Ls (aA af (aF ak af p)) H U)(L:uL af p H U)(c9:H.length+U.length≤p)(h:∀σ',bl S ws ls σ' Ls->K (.tuple [.bytes ak,aJ H]) σ') :
  az X (n+9) (.ref 302) [b0 ls p, .n s, .n size, .lam ak] [] K σ:=O.check C G D L.nH L.cH L.d c9 λσ' G'=>aa L.sH (h σ' G')
theorem c6.AU(O:c6 S ws ls p s size af ak)(G:bl S ws ls σ Ls)(D:fK Ls (aA af (aF ak af p)) [] U)(c9:U.length≤p)(h:∀σ',bl S ws ls σ' Ls->K (.tuple [.bytes ak, .list []]) σ') :
  az X (n+9) (.ref 302) [b0 ls p, .n s, .n size, .lam ak] [] K σ:=O.check C G D ye (λJ=>nofun) (λJ=>nofun) (by refine aa List.length_nil (aa (m4 ..) ?_);exact c9) h
theorem adV(O:c6 S ws ls p s size af ak)(G:bl S ws ls σ Ls)(hf:dg Ls 200)(L:uL af p H U)(c9:H.length+U.length≤p)(D:fK Ls (aA af (aF ak af p)) H U)(F:Flags Ls U){x:Int}{b:Bool}(hb:nA size ak (bp Ls (af.drop p))↔b=true)
  (h:∀σ' dM,bl S ws ls σ' dM->dg dM 300->Flags dM []->K (.bool true) σ'):dy X (n+9) (B1.body.drop 6) (i5 K)
   {m:= [some (b0 ls p),some (eA (af.map bP)),some (.n s),some (.bytes ak),some (.int x),some (.n p),some (.n size),some (aJ H),some (aJ U),some (.tuple [.bytes ak,aJ H]),some (.bool b),none],fz:= [],σ:=σ}:=by
 have gq:ak.length≤1000:=O.tl.symm▸O.B.sz
 have dG:Ls.length=ls.length:=G.len
 have jK:∀a∈U,a<ls.length:=λa ha=>by obtain ⟨c,hc,rfl⟩:=bF.mp (L.cU a ha);exact (O.B.jI c hc).1
 let S':aq->St:=λσ=>{m:= [some (b0 ls p),some (eA (af.map bP)),some (.n s),some (.bytes ak),some (.int x),some (.n p),some (.n size),some (aJ H),some (aJ U),some (.tuple [.bytes ak,aJ H]),some (.bool b),none],fz:= [3],σ:=σ}
 refine join S' (λσ'=>bl S ws ls σ' Ls) (λK' k J=>gm C ⟨kN,E2 C O.B gq G λnE G3=>⟨λhP=> ?_,λhP=>⟨λJ=> ?_,λhA=>absurd (O.yes D c9) hA⟩⟩⟩) λnE G3=> ?_
 ·cases hb.mp hP;exact .fz lk (bf.f (Fq ak) (k nE _ G3 rfl))
 ·cases b with
  | true=>exact absurd (hb.mpr rfl) hP
  | false=>refine aa (O.Nl D L.nH L.cH L.d) (aa L.sH ?_);exact Np (k nE _ G3 rfl)
 refine gm C ⟨kN,O.adU C G3 D L c9 λNx G4=>Np (gm C (MY C O.B.T G4 (λk=>ag (hf k) (nb rfl)) gq O.B.h1 O.B.h3 O.B.h2 (aa O.tl O.B.ec) O.B.uF O.B.km O.cp (which:=H) λadW G5 =>
  cu (k:=H.length) (congrArg some (aC _)) (ag L.lH (nb rfl)) (wV (b:=H.length) (λJ=> ?_) λq=>absurd (O.adM D L.nH L.cH L.d) q)))⟩
 have D5:=O.adN dG D L.d
 have F5:=O.adO dG F H
 have f5:dg (kK H (aA af (aF ak af p)) Ls) 300:=λk=>ag (adC hf (λy hy=>(O.lJ hy).2.2.2.1) k) (by have:=nr (b:=aF ak af p) O.B.hcl;exact ag (lL (c8 10 this) _) (nb rfl))
 generalize kK H (aA af (aF ak af p)) Ls=Ls5 at *
 have adX:Ls5.length=ls.length:=G5.len
 have xI:∀k∈U,k<Ls5.length:=λk hk=>adX▸jK k hk
 exact gm C ⟨kN,O.AU C G5 D5 (ag (lm ..) c9) λadY G6=> .fz lk (xz C O.B.T G6 (v:=false) jK λNy G7=>bf.t (AR ak) (gm C ⟨kN,O.AU C G7 (Nr L.nU xI D5) (da _) λadZ G8=> .fz lk (kb (K:=K) (AR ak) (h _ _ G8 (AO f5) (Nu L.nU xI F5)))⟩))⟩
theorem ad0(O:c6 S ws ls p s size af ak)(G:bl S ws ls σ Ls)(hf:dg Ls 200)(L:uL af p [] U)(c9:p<U.length)(D:fK Ls (aA af (aF ak af p)) [] U)(F:Flags Ls U){x:Int}{b:Bool}(hb:nA size ak (bp Ls (af.drop p))↔b=true)
  (h:∀σ' dM,bl S ws ls σ' dM->dg dM 300->Flags dM []->K (.bool true) σ'):dy X (n+9) (B1.body.drop 6) (i5 K)
   {m:= [some (b0 ls p),some (eA (af.map bP)),some (.n s),some (.bytes ak),some (.int x),some (.n p),some (.n size),some (aJ []),some (aJ U),some (.tuple [.none, .list []]),some (.bool b),none],fz:= [],σ:=σ}:=by
 have gq:ak.length≤1000:=O.tl.symm▸O.B.sz
 have dG:Ls.length=ls.length:=G.len
 have jK:∀a∈U,a<ls.length:=λa ha=>by obtain ⟨c,hc,rfl⟩:=bF.mp (L.cU a ha);exact (O.B.jI c hc).1
 have xI:∀k∈U,k<Ls.length:=λk hk=>dG▸jK k hk
 have f6:=O.no D L.nU L.cU c9
 let S':aq->St:=λσ=>{m:= [some (b0 ls p),some (eA (af.map bP)),some (.n s),some (.bytes ak),some (.int x),some (.n p),some (.n size),some (aJ []),some (aJ U),some (.tuple [.none, .list []]),some (.bool b),none],fz:= [3],σ:=σ}
 refine join S' (λσ'=>bl S ws ls σ' Ls) (λK' k J=>gm C ⟨kN,E2 C O.B gq G λnE G3=>⟨λhP=> ?_,λhP=>⟨λhA=>absurd hA f6,λJ=> ?_⟩⟩⟩) λnE G3 =>
  gm C ⟨kN,E1 C O.B gq G3 λNx G4=>⟨λhA=>absurd hA f6,λJ=>xz C O.B.T G4 (v:=false) jK λNy G7=>gm C ⟨kN,O.AU C G7 (Nr L.nU xI D) (da _) λadZ G8=> .fz lk (kb (K:=K) (AR ak) (h _ _ G8 (λk=>ag (AO hf k) (nb rfl)) (Nu L.nU xI F)))⟩⟩⟩
 ·cases hb.mp hP;exact .fz lk (bf.f (Fq ak) (k nE _ G3 rfl))
 ·cases b with
  | true=>exact absurd (hb.mpr rfl) hP
  | false=>exact k nE _ G3 rfl
theorem ad1(O:c6 S ws ls p s size af ak)(G:bl S ws ls σ Ls)(hf:dg Ls 100)(D:fK Ls (aA af (aF ak af p)) [] [])(F:Flags Ls []){x:Int}
  (h:∀σ' dM,bl S ws ls σ' dM->dg dM 300->Flags dM []->K (.bool true) σ'):az X (n+10) (.ref 781) [b0 ls p,eA (af.map bP), .n s, .bytes ak, .int x] [] K σ:=by
 have gq:ak.length≤1000:=ao O.tl.symm O.B.sz
 have AV:0<af.length:=et O.B.h1 O.B.gW
 have dG:Ls.length=ls.length:=G.len
 have dB:p≤1000:=ag O.B.h3 (nb rfl)
 have sD:(af.map bP).length≤10:=aa (aC ..) O.B.km
 have Mh:∀{k},(af.map bP).length≤10->10≤k->(af.map bP).length≤k:=λh h'=>ag h h'
 let S1:Nat->St:=λz=>{m:= [some (b0 ls p),some (eA (af.map bP)),some (.n s),some (.bytes ak),some (.int x),some (.n p),some (.n z),none,none,none,none,none],fz:= [],σ:=σ}
 let S2:List Nat×List Nat->St:=λq=>{m:= [some (b0 ls p),some (eA (af.map bP)),some (.n s),some (.bytes ak),some (.int x),some (.n p),some (.n size),some (aJ q.1),some (aJ q.2),none,none,none],fz:= [],σ:=σ}
 refine C.call 75 rfl rfl (join S1 (λz=>z =size) (λK' k J=>cu rfl (k6 gq) (k _ _ O.tl rfl)) λz hz=> ?_);subst hz;refine join S2 (λq=>uL af p q.1 q.2) (λK' k J=>cu (k:=ls.length) (congrArg some (aC _)) (ag O.B.T.gF (nb rfl)) (fg (a:=ls.length) (b:=5) (λJ=>Nc C (most:=2) O.B.h3 (aa (aC ..) AV) (ag sD (nb rfl)) (k (_,_) _ (Nw AV O.B.h3) rfl))
  λJ=>Nc C (most:=1) O.B.h3 (aa (aC ..) AV) (ag sD (nb rfl)) (k (_,_) _ (Nw AV O.B.h3) rfl))) λ⟨H,U⟩ L=> ?_
 have jK:∀a∈U,a<ls.length:=λa ha=>by obtain ⟨c,hc,rfl⟩:=bF.mp (L.cU a ha);exact (O.B.jI c hc).1
 refine adv C O.B.T G (λk=>ag (hf k) (nb rfl)) sD (λy hy=> ?_) (λk=>(F k).1.trans (decide_eq_false nofun)) λaD G1=>xz C O.B.T G1 (v:=true) jK λaQ G2=> ?_
 ·obtain ⟨c,hc,rfl⟩:=bF.mp hy;exact ⟨(O.B.jI c hc).1,(O.B.jI c hc).2,(O.B.xw c hc).1⟩
 have D1:=O.adP (H:=H) dG D
 have F1:=O.adQ (H:=H) dG F
 have f1:dg (jJ (af.map bP) H Ls) 200:=λk=>ag (adD hf (λy hy=>by obtain ⟨c,hc,rfl⟩:=bF.mp hy;exact (O.B.xw c hc).1) k) (lL (c8 10 sD) 100)
 generalize jJ (af.map bP) H Ls=qy at *
 have uM:∀k∈U,k<qy.length:=λk hk=>by have:qy.length=ls.length:=G1.len;refine aa this ?_;exact jK k hk
 have D2:=adR (H:=H) L.nU uM D1
 have F2:=Nt L.nU uM F1
 have f2:dg (f9 U true qy) 200:=AO f1
 generalize f9 U true qy=sE at *
 have aR:(H.map ab.n).length+(U.map ab.n).length≤1000000:=by refine aH (aC ..) (aC ..) ?_;exact ag (fL L.lH L.lU) (nb rfl)
 have uo:tZ aQ (.list (H.map .n++U.map .n))=some (H.length+U.length):=congrArg some (aa de (aa (aC ..) (aa (aC ..) rfl)))
 have CV:H.length+U.length≤1000000:=ag (fL L.lH L.lU) (nb rfl)
 have ja:((af.map bP).drop p).length≤1000:=by refine aa f0 ?_;exact ag (gE ..) (ag sD (nb rfl))
 have cF:∀{x:Pt} {K':Option ab->St->Prop} {st cz:St},(∀v st',v=ab.bool (decide (x.1∉H++U))->gx [false,false,false,false,false,false,false,false,false,false,false,false,true,true] st'=cz->K' (some v) st')->gx [false,false,false,false,false,false,false,false,false,false,false,false,true,true] st=cz->
   dQ ((H.map ab.n).length+(U.map ab.n).length)/\vi st.σ (.n x.1) (.list (H.map .n++U.map .n)) λr=>K' (some (.bool (!r))) st:=λ{x K' st cz} k e =>
  ⟨aR,np (l:=H++U) (congrArg some gR.symm) (λq=>k _ _ (congrArg ab.bool (decide_eq_false λh=>h q).symm) e) λq=>k _ _ (congrArg ab.bool (decide_eq_true q).symm) e⟩
 refine ⟨aR,cu uo CV (qf (b:=p) (λc9=>Ai dB (ag sD (nb rfl)) (fe _ ((af.map bP).drop p) oV (λx=> .bool (decide (x.1∉H++U))) (k5 ja) (λx J K' k=>cF k rfl) (nq (g:=ab.bool) ja (La (jj (adV C O G2 f2 L c9 D2 F2 (O.Fp D2) h))))))
  λc9=> .fz lk (Ai dB (ag sD (nb rfl)) (fe _ ((af.map bP).drop p) oV (λx=> .bool (decide (x.1∉H++U))) (k5 ja) (λx J K' k=>cF k rfl) (nq (g:=ab.bool) ja (La (jj ?_))))))⟩
 obtain ⟨rfl,bx⟩:=L.le.resolve_left c9;exact ad0 C O G2 f2 L bx D2 F2 (O.Fp D2) h
end
theorem Nz(Ls:List Lf)(zs:List CP):oO Ls zs=(zs.filterMap λx=>if (Ls.getD (ck x) ax).out=true then some (ck x) else none).length:=by
 unfold oO
 suffices ∀n,zs.foldl (λn x=>if (Ls.getD x.1.1 ax).out=true then n+1 else n) n=n+(zs.filterMap λx=>if (Ls.getD (ck x) ax).out=true then some (ck x) else none).length by simpa using this 0
 induction zs with
 | nil=>intro n;rfl
 | cons x zs ih =>
  intro n;refine aH mq lz (aa (ih ..) ?_)
  by_cases q:(Ls.getD (ck x) ax).out=true
  ·simp only [if_pos q,nS];exact aa (sR ..) (aa (j9 ..) rfl)
  ·simp only [if_neg q]
theorem ad2(l:List Bool):jk (kf 2) (l.map .bool) (l.map .bool)=some true:=by
 induction l with
 | nil=>rfl
 | cons x l ih =>
  refine (?_:((kf 2 (.bool x) (.bool x)).bind λa=>(jk (kf 2) (l.map .bool) (l.map .bool)).map λb=>a&&b)=_);refine aa ih (?_:some ((x==x)&&true)=_)
  simp
theorem ad3{l:List Bool}{k:Bool->Prop}(h:k false):bB (nT σ .NotEq (.list (l.map .bool)) (.list (l.map .bool))) k :=
 bB.i (v:=false) (by
  refine (?_:(if (l.map ab.bool).length=(l.map ab.bool).length then jk (kf 2) (l.map .bool) (l.map .bool) else some false).map (λz=>!z)=_);refine aa (if_pos rfl) (aa (ad2 ..) ?_);rfl) h
theorem NA{l:List Nat}{k:Bool->Prop}(h:k false):bB (nT σ .NotEq (aJ l) (aJ l)) k :=
 bB.i (v:=false) (by
  refine (?_:(if (l.map ab.n).length=(l.map ab.n).length then jk (kf 2) (l.map .n) (l.map .n) else some false).map (λz=>!z)=_);refine aa (if_pos rfl) (aa (Nn (g:=gf) λv hv w=>by obtain ⟨x,_,rfl⟩:=bF.mp hv;rfl) (aa (Nm ..) ?_));rfl) h
structure AW(Ls:List Lf)(U:List Nat)(zs:List CP):Prop where
 few:dg Ls 0
 out:∀y∈zs,(Ls.getD (ck y) ax).out=false
 cont:∀y∈zs,ck y∉U->(Ls.getD (ck y) ax).cont=y.2
structure ad4(Ls:List Lf)(U:List Nat)(zs:List CP):Prop where
 c4:∀k,(Ls.getD k ax).c4=decide (k∈U)
 out:∀k,(Ls.getD k ax).out=decide (k∈U)
 cont:∀y∈zs,ck y∉U->(Ls.getD (ck y) ax).cont=y.2
structure ad5(Ls:List Lf)(W U:List Nat)(zs:List CP):Prop where
 u:∀a∈W,a∈U
 s:bz W=W
 l:W.length≤9
 mn:oQ Ls W zs=W.length
 d:fK (kK W zs Ls) zs [] []
section
variable{S:Nat}{ws:List (Nat×Nat)}{ls:List Addr}{Ls:List Lf}{p s size:Nat}{af:List bG}{ak:List UInt8}{U:List Nat}(O:c6 S ws ls p s size af ak)
include O
theorem c6.ad6(hn:U.Nodup)(hc:∀a∈U,a∈af.map (λz=>z.1))(F:Flags Ls U):oO Ls (aA af (aF ak af p))=U.length:=by
 refine aa (Nz ..) (((Fl (xF O.lI) hn).mpr λa=> ?_).length_eq);rw [uJ]
 constructor
 ·rintro ⟨y,_,h,rfl⟩;rw [(F _).1] at h;exact of_decide_eq_true h
 ·intro ha;refine aB (bF.mp (hc a ha)) λc hc a0=> ?_;subst a0;refine aB (O.col hc) λy hy a0=> ?_;subst a0;exact ⟨y,hy,(F _).1.trans (dt ha),rfl⟩
theorem c6.ad7(dG:Ls.length=ls.length)(hc:∀a∈U,a∈af.map (λz=>z.1))(F:Flags Ls U)(k:Nat):((iB 9 (aA af (aF ak af p)) Ls).getD k ax).c4=decide (k∈U):=by
 refine o4 (AN O.lI (λy hy=>aa dG ((O.lJ hy).1)) 9) λJ w2 w3=> ?_
 by_cases q:k∈(aA af (aF ak af p)).map ck
 ·refine aB (bF.mp q) λy hy a0=> ?_;subst a0;refine aa (w2 y hy) ?_;unfold eQ
  by_cases qu:ck y∈U
  ·refine aH (if_pos (by rw [(F _).1];exact dt qu)) (dt qu) (?_:((Ls.getD (ck y) ax).c4 || decide ((9:Int)=9))=true);exact aa (dt rfl) (aa (acJ ..) rfl)
  ·exact aH (if_neg (by rw [(F _).1,df qu];decide)) (df qu) ((F _).2)
 ·refine aa (w3 k q) (aa ((F k).2) ?_);exact (df λhu=>q (aa O.keys (hc k hu))).symm
theorem c6.ad8(dG:Ls.length=ls.length)(F:Flags Ls U)(k:Nat):((iB 9 (aA af (aF ak af p)) Ls).getD k ax).out=decide (k∈U):=by
 refine o4 (AN O.lI (λy hy=>aa dG ((O.lJ hy).1)) 9) λJ w2 w3=> ?_
 by_cases q:k∈(aA af (aF ak af p)).map ck
 ·refine aB (bF.mp q) λy hy a0=> ?_;subst a0;refine F8 (w2 y hy) ((F _).1) ?_;unfold eQ
  split<;>rfl
 ·exact aa (w3 k q) ((F k).1)
theorem c6.ad9(dG:Ls.length=ls.length)(F:Flags Ls U):∀y∈aA af (aF ak af p),ck y∉U->((iB 9 (aA af (aF ak af p)) Ls).getD (ck y) ax).cont=y.2:=λy hy qu=>by
 refine aa ((AN O.lI (λy hy=>by rw [dG];exact (O.lJ hy).1) 9).2.1 y hy) ?_;unfold eQ;exact congrArg _ (if_neg (by rw [(F _).1,df qu];decide))
omit O in
theorem ad'{dM:List Lf}{zs:List CP}(hn:U.Nodup)(hl:∀k∈U,k<Ls.length)(ho:∀k,(Ls.getD k ax).out=decide (k∈U))(hc:∀y∈zs,ck y∉U->(Ls.getD (ck y) ax).cont=y.2)(hw:dM.length=w)(hf:∀k,k<w->dM.getD k ax=sA ((f9 U false Ls).getD k ax))(hz:∀y∈zs,ck y<w):AW dM U zs:=by
 have g:∀k,((f9 U false Ls).getD k ax).out=false:=λk=>by
  refine aa ((uI false hn hl).2 ..) ?_
  split
  ·rfl
  ·rename_i q;exact aa (ho ..) (aa (df q) rfl)
 have e:∀k,k<w->dM.getD k ax={(f9 U false Ls).getD k ax with wn:=0}:=λk hk=>by refine aa (hf k hk) ?_;rewrite [sA];exact aa (if_neg (by rw [g];decide)) rfl
 refine ⟨λk=> ?_,λy hy=>aa (e _ (hz y hy)) (g _),λy hy q=> ?_⟩
 ·by_cases q:k<w
  ·exact aa (e k q) (cb _)
  ·rw [i9,ir (aa hw (fA q))];exact cb _
 ·refine aa (e _ (hz y hy)) (?_:((f9 U false Ls).getD (ck y) ax).cont=_);refine aa ((uI false hn hl).2 ..) (aa (if_neg q) ?_);exact hc y hy q
theorem c6.aea(G:bl S ws ls σ Ls)(B:AW Ls U (aA af (aF ak af p)))(hw:U.length≤p):Acc af p size ak (bp Ls af) :=
 O.acc Ls U (λc hc=>aa (G.cont O.B.T (O.B.jI c hc).1) (aa ((O.B.jI c hc).2) rfl)) hw λy hy hu=>⟨B.out y hy,B.cont y hy hu⟩
theorem c6.aeb(dG:Ls.length=ls.length)(hn:U.Nodup)(hw:U.length≤p)(B:AW Ls U (aA af (aF ak af p))):ad5 Ls (bz (mE af (bp Ls af) (aF ak af p))) U (aA af (aF ak af p)):=by
 obtain ⟨W,eW⟩:∃W,W=bz (mE af (bp Ls af) (aF ak af p)):=⟨_,rfl⟩
 have Fs:∀a,a∈W↔∃y∈aA af (aF ak af p),((Ls.getD (ck y) ax).out=false/\(Ls.getD (ck y) ax).cont≠y.2)/\ck y=a:=λa=>by
  refine aa eW ?_;rewrite [oY];refine aa (Fm ..) (aa (show (aA af (aF ak af p)).filterMap (xD Ls)=(aA af (aF ak af p)).filterMap λx=>if (Ls.getD (ck x) ax).out=false/\(Ls.getD (ck x) ax).cont≠x.2 then some (ck x) else none from rfl) ?_);rewrite [uJ];rfl
 have NB:W.Nodup:=by refine aa eW (aa (Fm ..) ?_);exact AP (xF O.lI)
 have NC:∀a∈W,a∈U:=λa ha=>by
  obtain ⟨y,hy,⟨_,h2⟩,rfl⟩:=(Fs a).mp ha;exact aec λq=>h2 (B.cont y hy q)
 refine ao eW (⟨NC,aa eW (aa (Nj ..) rfl),ag (AQ NB NC) (ag hw (ag O.B.h3 (nb rfl))), ?_,λy hy=> ?_⟩)
 ·refine aa (Nq ..) (((Fl (xF O.lI) NB).mpr λa=> ?_).length_eq);rw [uJ]
  constructor
  ·rintro ⟨y,_,h,rfl⟩;exact h.1
  ·intro ha;obtain ⟨y,hy,⟨h1,_⟩,rfl⟩:=(Fs a).mp ha;exact ⟨y,hy,⟨ha,h1⟩,rfl⟩
 ·refine aa ((Fi O.lI (λy hy=>by rw [dG];exact (O.lJ hy).1) W).2.1 y hy) ?_
  have eO:=B.out y hy
  rewrite [if_neg (by simp:¬ ck y∈([]:List Nat))];refine aa (df (by simp:¬ ck y∈([]:List Nat))) ?_
  by_cases q:ck y∈W
  ·refine aa (if_pos q) ?_;unfold eQ;exact aa (if_neg (by rw [eO];decide)) (⟨eO,rfl⟩)
  ·exact aa (if_neg q) (⟨eO,aec λq2=>q ((Fs _).mpr ⟨y,hy,⟨eO,q2⟩,rfl⟩)⟩)
end
structure Fu(af:List bG)(U:List Nat):Prop where
 n:U.Nodup
 c:∀a∈U,a∈af.map (λz=>z.1)
 l:U.length≤4
theorem aed{U:List Nat}(hn:(af.map (λz=>z.1)).Nodup)(hk:k≤4)(e:U=((af.map bP).take k).map λy=>y.1):Fu af U:=by
 have e2:U=(af.map (λz=>z.1)).take k:=by refine aa e (aa xe (aa dj ?_));rfl
 exact aa e2 (⟨(aaY _ _).nodup hn,λa ha=>pg ha,ag (ND ..) hk⟩)
theorem aee{g:α->ab}{z:Int}(e:z=(k:Int))(hk:k≤1000)(hl:l.length≤1000)(q:∀ws,ws=l.take k->K (.list (ws.map g)) st):kj (.list (l.map g)) none (some (.int z)) st K:=aa e (Ae hk hl q)
section
variable{X:Cx}(C:Ctx X){n:Nat}{K:ab->aq->Prop}{σ:aq}{S:Nat}{ws:List (Nat×Nat)}{ls:List Addr}{Ls:List Lf}{p s size:Nat}{af:List bG}{ak:List UInt8}{U:List Nat}
include C
omit C in
theorem aef{own:List (Addr×List ab)}{step:ab->St->(Option ab->St->Prop)->Prop}{K:List ab->St->Prop}(bs:List Bool)(l:List α)(g:α->ab)(hl:l.length≤100000)
  (hs:∀a∈l,∀(K':Option ab->St->Prop),(∀st',gx bs st'=st->K' none st')->step (g a) st K')
  (hK:K [] st) (e:items=l.map g:=by rfl) (hg:Guard own st:=by exact dW):dQ items.length/\lW own step K items [] st :=
 qe bs l g (λJ=>none) hl (λa ha K' k=>hs a ha K' λst' e=>k _ _ rfl e) (E6.mpr (λJ J=>rfl)▸hK) e hg
theorem aeg(O:c6 S ws ls p s size af ak)(hn:U.Nodup)(G:bl S ws ls σ Ls)(B:AW Ls U (aA af (aF ak af p)))(hw:U.length≤p){x:Int}
  (h:∀σ' dM,bl S ws ls σ' dM->K (.bool true) σ'):dy X (n+9) (B2.body.drop 7) (i5 K)
   {m:= [some (b0 ls p),some (eA (af.map bP)),some (.n s),some (.bytes ak),some (.int x),some (aJ U),some (.bool true),none,none],fz:= [],σ:=σ}:=by
 have gq:ak.length≤1000:=ao O.tl.symm O.B.sz
 have aeh:=O.tl
 subst aeh
 have dG:=G.len
 have R:=O.aeb dG hn hw B
 refine gm C (cu rfl (k6 gq) ⟨kN,E1 C O.B gq G λadW G5=>⟨λJ=> ?_,λFo=>absurd (O.aea G B hw) Fo⟩⟩);generalize bz (mE af (bp Ls af) (aF ak af p))=W at *
 refine bf.f (congrArg _ (dt rfl)) (aef [false,false,false,false,false,false,false,false,false,false,true] W .n (ag R.l (nb rfl)) (λa ha K' k=>np (l:=U) rfl (λJ=>k _ rfl) λq=>absurd (R.u a ha) q)
  (.fz lk (.fz lk (xi rfl ((uD W).trans (congrArg _ R.s)) (ag R.l (nb rfl)) (NA (gm C (MY C O.B.T G5 (λk=>ag (B.few k) (nb rfl)) gq O.B.h1 O.B.h3 O.B.h2 O.B.ec O.B.uF O.B.km O.cp (which:=W) λadY G6 =>
   cu (k:=W.length) (congrArg some (aC _)) (ag R.l (nb rfl)) (wV (b:=W.length) (λJ=>gm C (cu rfl (k6 gq) ⟨kN,O.AU C G6 R.d (da _) λNy G7=> .fz lk (kb (K:=K) (AR ak) (h _ _ G7))⟩)) λq=>absurd R.mn q))))))))
omit C in
theorem aei{a b:Nat}{c:Bool}(h:c=decide (a≤b)):(!(c==decide ((a:Int)≤(b:Int))))=false:=by refine aa h ?_;rewrite [decide_eq_decide.mpr dT];refine aa (beq_self_eq_true ..) ?_;rfl
theorem aej(O:c6 S ws ls p s size af ak)(L:Fu af U)(jK:∀a∈U,a<ls.length)(G:bl S ws ls σ Ls)(N:ad4 Ls U (aA af (aF ak af p))){x:Int}{b:Bool}(hb:b=decide (U.length≤p))
  (h:∀σ' dM,bl S ws ls σ' dM->K (.bool true) σ'):dy X (n+9) (B2.body.drop 3) (i5 K)
   {m:= [some (b0 ls p),some (eA (af.map bP)),some (.n s),some (.bytes ak),some (.int x),some (aJ U),some (.bool b),none,none],fz:= [],σ:=σ}:=by
 have dG:=G.len
 have hl:(aK ls.length).length≤1000:=aa fh (ag O.B.T.gF (nb rfl))
 refine cu (k:=U.length) (congrArg some (aC _)) (ag L.l (nb rfl)) (bf.f (aei hb) (gm C (E7 C O.B.T.gF
  (fe [false,false,false,false,false,false,false,false,false,false,true] (aK ls.length) (λk=> .ref (ls.getD k 0)) (λk=> .bool (decide (k∉U))) (k5 hl) (λk hk K' kk=> ?_) (Af (f:=λk=>decide (k∉U)) (g:=ab.bool) hl λys ey =>
   cu (k:=ls.length) (congrArg some (aC _)) (ag O.B.T.gF (nb rfl)) ⟨rg (ag O.B.T.gF (nb rfl)),fe [false,false,false,false,false,false,false,false,false,false,true] (aK ls.length) .n (λk=> .bool (decide (k∉U))) (k5 hl) (λk hk K' kk =>
    np (l:=U) rfl (λq=>kk _ _ (congrArg ab.bool (decide_eq_false λh=>h q).symm) rfl) λq=>kk _ _ (congrArg ab.bool (decide_eq_true q).symm) rfl) (Af (f:=λk=>decide (k∉U)) (g:=ab.bool) hl λzs ez=> ?_) (i7 _)⟩) (E5 ls)))))
 ·refine iE G λfs G=> ?_;obtain ⟨g,i,j,mem,aZ,D⟩:=G.at_ k (fU.mp hk);exact D.aI C (acD C D (kk _ _ (congrArg ab.bool (by refine aa (N.c4 ..) ?_;by_cases q:k∈U<;>simp [q])) rfl))
 cases ey;cases ez;refine ad3 (xz C O.B.T G (v:=false) jK λnE G3=>gm C (M7 C O.B.T G3 λNx aek G4 Fv ael=> ?_))
 have B:=ad' (dM:=aek) (zs:=aA af (aF ak af p)) L.n (λk hk=>aa dG (jK k hk)) N.out N.cont G4.len ael λy hy=>(O.lJ hy).1
 cases b with
 | true=>exact aeg C O L.n G4 B (of_decide_eq_true hb.symm) h
 | false=>exact h _ _ G4
theorem aem(O:c6 S ws ls p s size af ak)(G:bl S ws ls σ Ls)(hf:dg Ls 300)(F:Flags Ls []){x:Int}
  (h:∀σ' dM,bl S ws ls σ' dM->K (.bool true) σ'):az X (n+10) (.ref 786) [b0 ls p,eA (af.map bP), .n s, .bytes ak, .int x] [] K σ:=by
 have dB:p≤1000:=ag O.B.h3 (nb rfl)
 have hb:mS x 2=((x.fmod 2).toNat:Int)/\(x.fmod 2).toNat≤1:=aa (lS ..) (aa (tr _ (by decide)) ⟨(tI (Fc _ (by decide))).symm,tW.mpr (adm (Fe _ (by decide)))⟩)
 let S1:List Nat->St:=λU=>{m:= [some (b0 ls p),some (eA (af.map bP)),some (.n s),some (.bytes ak),some (.int x),some (aJ U),none,none,none],fz:= [],σ:=σ}
 have gq:ak.length≤1000:=ao O.tl.symm O.B.sz
 have dG:=G.len
 have fi:(af.map bP).length≤1000:=aa (aC ..) (ag O.B.km (nb rfl))
 have Fw:p+(x.fmod 2).toNat≤4:=fL O.B.h3 hb.2
 refine C.call 76 rfl rfl (join S1 (λU=>Fu af U) (λK' k J=>⟨by decide,aee (k:=p+(x.fmod 2).toNat) (congrArg _ hb.1) (ag Fw (nb rfl)) fi λpt NE=> ?_⟩) λU L=> ?_)
 ·have Fv:pt.length≤4:=aa NE (ag (ND ..) Fw)
  exact fe [false,false,false,false,false,false,false,false,false,false,true] pt oV (λy=> .n y.1) (ag Fv (nb rfl)) (λy J K' k=>k _ _ rfl rfl) (Af (f:=λy:Pt=>y.1) (g:=ab.n) (ag Fv (nb rfl)) λU eU=>k U _ (aed O.nd Fw (eU.trans (congrArg _ NE))) rfl)
 have jK:∀a∈U,a<ls.length:=λa ha=>by obtain ⟨c,hc,rfl⟩:=bF.mp (L.c a ha);exact (O.B.jI c hc).1
 refine xz C O.B.T G (v:=true) jK λaD G1=> ?_
 have F1:=Nt L.n (λk hk=>aa dG (jK k hk)) F
 have f1:dg (f9 U true Ls) 300:=AO hf
 generalize f9 U true Ls=qy at *
 have uM:=G1.len
 exact gm C (MX C O.B.T G1 (λk=>ag (f1 k) (nb rfl)) gq O.B.h1 O.B.h3 O.B.h2 (aa O.tl O.B.ec) O.B.uF O.B.km O.cp (cy:=9) (λJ J=> .inr rfl) λaQ G2=>jj (aej C O L jK G2 ⟨O.ad7 uM L.c F1,O.ad8 uM F1,O.ad9 uM F1⟩ (aa (O.ad6 L.n L.c F1) rfl) h))
end
structure uN(S:Nat)(ws:List (Nat×Nat))(ls:List Addr)(fs:List Ft)(Ls:List Lf)(i:Nat)(σ:aq):Prop where
 lf:∀k,k<ls.length->1≤k->i≤k->mD S (ws.getD k (0,0)).1 (ws.getD k (0,0)).2 σ (ls.getD k 0) (fs.getD k lE) (Ls.getD k ax)
 dn:∀k,k<ls.length->k<i∨k=0->DN σ (ls.getD k 0)
section
variable{S:Nat}{ws:List (Nat×Nat)}{ls:List Addr}{σ σ':aq}{fs:List Ft}{Ls:List Lf}(G:lF S ws ls σ fs Ls)
include G
theorem lF.no{i:Nat}(hk:k<ls.length)(hi:i<ls.length)(h:k≠i):ls.getD i 0∉foot (ls.getD k 0) (fs.getD k lE):=λhm=>G.ap i k hi hk h.symm _ (.head _) hm
theorem lF.aen(hi:0<ls.length)(hk:∀x,x≠ls.getD 0 0->σ' x=σ x)(hd:DN σ' (ls.getD 0 0)):uN S ws ls fs Ls 0 σ' where
 lf:=λk hl h1 J=>(G.at_ k hl).keep λx hx=>hk x λe=>G.no hl hi (fH h1) (ao e hx)
 dn:=λk J h0=>by obtain rfl:=h0.resolve_left (EH k);exact hd
theorem uN.step{i:Nat}(P:uN S ws ls fs Ls i aD)(hi:i<ls.length)(hk:∀x,x≠ls.getD i 0->σ' x=aD x)(hd:DN σ' (ls.getD i 0)):uN S ws ls fs Ls (i+1) σ' where
 lf:=λk hl h1 NF=>(P.lf k hl h1 (ig NF)).keep λx hx=>hk x λe=>G.no hl hi (fH NF) (ao e hx)
 dn:=λk hl h0=>by
  by_cases q:k=i
  ·subst q;exact hd
  ·obtain ⟨g,m,e⟩:=P.dn k hl (h0.imp_left λh=>DM (o5 h) q);exact ⟨g,m,(hk _ λe2=>G.no hl hi q (ao e2 (.head _))).trans e⟩
end
theorem NG{S:Nat}(hS:S=60 / w+8):(((S - 4)*w:Nat):Int)=(fQ 60 w+4)*w:=by
 have e0:((S - 4:Nat):Int)=((60 / w:Nat):Int)+4:=by
  exact aa hS rfl
 refine aa (aeo ..) (aa e0 ?_);rfl
section
variable{X:Cx}(C:Ctx X){n:Nat}{K:ab->aq->Prop}{σ:aq}{S:Nat}{ws:List (Nat×Nat)}{ls:List Addr}{Ls:List Lf}{p:Nat}
include C
theorem aep(T:iA S ws ls)(G:bl S ws ls σ Ls)(hl:2≤ls.length)(hS:S=60 / ls.length+8)(h:∀σ',K (.bool true) σ'):az X (n+7) (.ref 793) [b0 ls p, .n ls.length] [] K σ:=by
 obtain ⟨fs,G⟩:=G
 have oZ:=NH (ig hl)
 obtain ⟨g,i,j,mem,aZ,D⟩:=G.at_ 0 oZ
 let S':aq->St:=λσ=>{m:= [some (b0 ls p),some (.n ls.length),none],fz:= [],σ:=σ}
 refine C.call 77 rfl rfl (join S' (uN S ws ls fs Ls 0) (λK' k J=> ?_) λaD P=> ?_)
 ·exact Nb (i:=0) rfl (sx oZ) (by decide) (j7 D.lf (k _ _ (G.aen oZ (λx hx=>bA hx) ⟨g,_,bU⟩) rfl))
 have xJ:ls.length≤1000:=ag T.gF (by decide)
 have hq:fQ 60 ls.length=((60 / ls.length:Nat):Int):=rfl
 have Fx:60 / ls.length≤60:=om _ _
 refine gm C (E8 C T (λk=>decide (1≤k)) (λk hk=> ?_) (λJ=>⟨⟨oI.mpr (fH oZ),cY (k6 xJ)⟩,⟨cY (x:=60 / ls.length+4) (ag (gz Fx 4) (by decide)),cY (k6 xJ)⟩, ?_⟩) λf6=>absurd (f6 1 hl) (by decide))
 ·by_cases q:1≤k
  ·refine aa (dt q) (aa (if_pos rfl) ?_);exact ⟨_,_,_,_,P.lf k hk q (da _)⟩
  ·refine aa (df q) (aa (if_neg AE) ?_);exact P.dn k hk (.inr (Nat.eq_zero_of_not_pos q))
 refine bf.f (by refine aa (NG hS) (aa (dt rfl) ?_);rfl) (gm C (E7 C T.gF (loop [false,false,true] ls .ref S' (uN S ws ls fs Ls) aD P (λJ J J=>dW) (λi a σ' K' ei P k J=> ?_) λσ' P =>
  gm C (E8 C T (λJ=>false) (λk hk=>P.dn k hk (.inl hk)) (λ⟨_,_,h⟩=>ff h) λJ=>h _))))
 obtain ⟨hi,ea⟩:=dr.mp ei
 have ea:ls.getD i 0=a:=aa (cZ hi) (aa ea rfl)
 subst ea
 by_cases q:i=0
 ·obtain ⟨g,m,e⟩:=P.dn i hi (.inr q);exact j7 e (k _ _ (P.step G hi (λx hx=>bA hx) ⟨g,_,bU⟩) rfl)
 ·obtain ⟨g,_,_,_,_,D⟩:=P.lf i hi (VN q) (cb _);exact j7 D.lf (k _ _ (P.step G hi (λx hx=>bA hx) ⟨g,_,bU⟩) rfl)
end
structure iC(w p s size:Nat):Prop where
 w2:2≤w
 w6:w≤6
 p1:1≤p
 p3:p≤3
 pw:p<w
 z1:1≤size
 sF:size≤28
 aeq:s<20
noncomputable def je(w:Nat)(af:List bG):List (Nat×Nat):=(aK w).map λk=>match af.find? λc=>c.1==k with
 | some c=>(c.2.1,c.2.2.1)
 | none=>(0,0)
noncomputable def nF(af:List bG):Nat:=(af.map λc=>c.2.2.1).sum
structure AX:Prop where
 oct:∀w p s size (ls:List Addr) (ak:List UInt8),iC w p s size->ls.length=w->ak.length=size->c6 (60 / w+8) (je w (aW s size w p)) ls p s size (aW s size w p) ak
 AY:∀w p s size,iC w p s size->xy s ((size+3) / 4) w p (gS s p)=(aW s size w p).map bP/\mF ((size+3) / 4) w p≤1000/\(gS s p=true->2≤mF ((size+3) / 4) w p)
 big:∀w p s size,iC w p s size->p+1≤(aW s size w p).length
 AZ:∀w p s size,iC w p s size->Ak size w p=(nF (aW s size w p)+p) / (p+1)*(p+1)/\nF (aW s size w p)≤100
theorem uO(x:Int)(k:Nat)(hk:0<k):∃a:Nat,x.fmod k=a/\a<k :=
 ⟨_,(tI (Int.fmod_nonneg_of_pos x (il.mpr hk))).symm,mod_lt hk⟩
noncomputable def ga(z:Int)(n:Nat):List UInt8:=(aK n).map λk=>kF (1+((z+37*(k:Nat)).fmod 255).toNat)
noncomputable def Fy(b:List UInt8):List UInt8:=b.map λo=>kF (256 - o.toNat)
noncomputable abbrev gM(cq:List Int)(i:Nat)(x y z:Int)(w p size s:Nat)(g9 aer aes aet aeu aev:Option ab):List (Option ab) :=
 [some (.list (cq.map .int)),some (.n i),some (.int x),some (.int y),some (.int z),some (.n w),some (.n p),some (.n size),some (.n s),g9,aer,aes,aet,aeu,aev]
theorem lK(z:Int)(n:Nat):(ga z n).length=n:=by rewrite [ga];exact aa (aC ..) (aa fh rfl)
theorem Fz(b:List UInt8):(Fy b).length=b.length:=aC ..
theorem aew{z:Int}{n:Nat}{o:UInt8}(h:o∈ga z n):1≤o.toNat:=by
 obtain ⟨k,_,rfl⟩:=bF.mp h;obtain ⟨a,e,h2⟩:=uO (z+37*(k:Nat)) 255 (by decide)
 have e:(z+37*(k:Nat)).fmod 255=a:=e
 refine aa e (aa (mf ..) (aa (zR (lg a 1▸Nat.succ_lt_succ h2)) ?_));exact b6 ..
theorem aex{o:UInt8}(h1:1≤o.toNat):((kF (256 - o.toNat)).toNat:Int)=256 - (o.toNat:Int):=by
 refine aa (zR (LR (by decide) h1)) (aa (nm (bO (qi o))) ?_);rfl
theorem aey(b:List UInt8):b.map (λo=>ab.int ((kF (256 - o.toNat)).toNat))=dZ (Fy b):=by unfold dZ Fy;refine aa dj ?_;rfl
theorem FA{S:Nat}:((aK w).map (L0 S ws)).getD k ax=if k<w then L0 S ws k else ax:=by
 by_cases q:k<w
 ·refine aa (if_pos q) (aa (cZ (by rw [aC,fh];exact q)) ?_);simp
 ·rw [if_neg q,i9,ir (by refine aa (aC ..) (aa fh ?_);exact fA q)];rfl
section
variable{X:Cx}(CK:uH X)(P:AX){n:Nat}{K:ab->aq->Prop}{σ:aq}{cq:List Int}{i:Nat}{x y z:Int}{w p size s:Nat}
include CK P
theorem aez(hs:cq.length≤100)(hi:i≤100)(g:iC w p s size)(hl:ls.length=w)(G:bl (60 / w+8) (je w (aW s size w p)) ls σ Ls)(hf:dg Ls 300)(F:Flags Ls []){u:Option ab}{FC:List UInt8}(ho:FC.length=size)(h:∀σ',K (.bool true) σ') :
  dy X (n+10) (lY.body.drop 15) (i5 K) {m:=gM cq i x y z w p size s (some dv) (some (b0 ls p)) (some (eA ((aW s size w p).map bP))) u (some (.bytes FC)) (some (.bytes oct)),fz:= [14],σ:=σ}:=by
 subst hl
 have O:=P.oct _ p s size ls FC g rfl ho
 exact E9 CK.c (k:=i+4) (ag hs (by decide)) (ag (gz hi 4) (by decide)) (.inl rfl) (aem CK.c O G hf F λaD qy G1=>aep CK.c O.B.T G1 g.w2 rfl h)
theorem aeA(hs:cq.length≤100)(hi:i≤100)(g:iC w p s size)(hl:ls.length=w)(G:bl (60 / w+8) (je w (aW s size w p)) ls σ Ls)(hf:dg Ls 100)(F:Flags Ls [])
  (D:fK Ls (aA (aW s size w p) (aF (ga z size) (aW s size w p) p)) [] []) {u:Option ab} (h:∀σ',K (.bool true) σ') :
  dy X (n+10) (lY.body.drop 13) (i5 K) {m:=gM cq i x y z w p size s (some dv) (some (b0 ls p)) (some (eA ((aW s size w p).map bP))) u none (some (.bytes (ga z size))),fz:= [14],σ:=σ}:=by
 have O:=P.oct w p s size ls (ga z size) g hl (lK z size)
 have hz:(ga z size).length≤1000:=by refine aa (lK ..) ?_;exact ag g.sF (by decide)
 refine E9 CK.c (k:=i+3) (ag hs (by decide)) (ag (gz hi 3) (by decide)) (.inl rfl) (ad1 CK.c O G hf D F λaD qy G1 f1 F1 =>
  fe [false,false,false,false,false,false,false,false,false,false,false,false,false,false,false,false,true] (ga z size) (λo=> .int o.toNat) (λo=> .int ((kF (256 - o.toNat)).toNat)) (k5 hz) (λo ho K' k=> ?_) (j0 (aey _) (by refine aa (wZ ..) (aa (Fz ..) ?_);exact hz)
   (wN (by refine aa (Fz ..) ?_;exact k6 hz) (jj (aez CK P hs hi g hl G1 f1 F1 (aa (Fz ..) (aa (lK ..) rfl)) h)))))
 exact k _ _ (congrArg ab.int (aex (aew ho)).symm) rfl
end
structure qz(Ls:List Lf):Prop where
 out:∀k,(Ls.getD k ax).out=false
 c4:∀k,(Ls.getD k ax).c4=false
 wn:∀k,(Ls.getD k ax).wn=0
theorem aeB{S:Nat}:qz ((aK w).map (L0 S ws)):=⟨λk=>by refine aa FA ?_;split<;>rfl,λk=>by refine aa FA ?_;split<;>rfl,λk=>by refine aa FA ?_;split<;>rfl⟩
structure NI(Ls:List Lf)(zs:List CP):Prop where
 wn:∀k,(Ls.getD k ax).wn=0
 F:Flags Ls []
 D:fK Ls zs [] []
theorem qz.ar{zs:List CP}(h:qz Ls):oO Ls zs=0:=by
 refine aa (Nz ..) (aa (E6.mpr λy hy=>if_neg (by rw [h.out];decide)) ?_);rfl
theorem aeC{S:Nat}{sE:List Lf}{s size:Nat}(O:c6 S ws ls p s size af ak)(h:qz Ls)(hl:Ls.length=ls.length)(iV:sE.length=ls.length)
  (hg:∀k,k<ls.length->sE.getD k ax=sA ((iB 3 (aA af (aF ak af p)) Ls).getD k ax)):NI sE (aA af (aF ak af p)):=by
 obtain ⟨_,w2,w3⟩:=AN O.lI (λy hy=>by refine aa hl ?_;exact (O.lJ hy).1) 3
 have e:∀y∈aA af (aF ak af p),eQ 3 (Ls.getD (ck y) ax) y.2 y.1.2.2.1={Ls.getD (ck y) ax with cont:=y.2,wn:=(eQ 3 (Ls.getD (ck y) ax) y.2 y.1.2.2.1).wn}:=λy hy=>by unfold eQ;exact aa (if_neg (by rw [h.out];decide)) rfl
 have wg:∀k,((iB 3 (aA af (aF ak af p)) Ls).getD k ax).out=false/\((iB 3 (aA af (aF ak af p)) Ls).getD k ax).c4=false:=λk=>by
  by_cases q:k∈(aA af (aF ak af p)).map ck
  ·obtain ⟨y,hy,rfl⟩:=bF.mp q;refine aa (w2 y hy) (aa (e y hy) ?_);exact ⟨h.out _,h.c4 _⟩
  ·refine aa (w3 k q) ?_;exact ⟨h.out k,h.c4 k⟩
 have NJ:∀k,¬ k<ls.length->sE.getD k ax=ax:=λk hk=>by rw [i9,ir (iV▸fA hk)];rfl
 have g2:∀k,k<ls.length->sE.getD k ax={(iB 3 (aA af (aF ak af p)) Ls).getD k ax with wn:=0}:=λk hk=>by refine aa (hg k hk) ?_;rewrite [sA];exact aa (if_neg (by rw [(wg k).1];decide)) rfl
 refine ⟨λk=> ?_,λk=> ?_,λy hy=> ?_⟩
 ·by_cases q:k<ls.length
  ·exact congrArg _ (g2 k q)
  ·refine aa (NJ k q) ?_;rfl
 ·refine aa (df (by simp:¬ k∈([]:List Nat))) ?_
  by_cases q:k<ls.length
  ·refine aa (g2 k q) ?_;exact wg k
  ·refine aa (NJ k q) ?_;exact ⟨rfl,rfl⟩
 ·refine aH (g2 _ (O.lJ hy).1) (df (by simp:¬ ck y∈([]:List Nat))) (aa (if_neg (by simp:¬ ck y∈([]:List Nat))) ?_);exact ⟨(wg _).1,aa (w2 y hy) (aa (e y hy) rfl)⟩
theorem aeD(z:Int)(k:Nat):((kF (1+((z+37*(k:Nat)).fmod 255).toNat)).toNat:Int)=1+mS (z+37*(k:Nat)) 255:=by
 obtain ⟨a,e,h2⟩:=uO (z+37*(k:Nat)) 255 (nb rfl)
 have e:(z+37*(k:Nat)).fmod 255=a:=e
 refine aa (lS ..) (aa e (aa (mf ..) (aa (zR (wK h2 1)) ?_)));rfl
theorem aeE(z:Int)(n:Nat):(aK n).map (λk=>ab.int ((kF (1+((z+37*(k:Nat)).fmod 255).toNat)).toNat))=dZ (ga z n):=by unfold dZ ga;refine aa dj ?_;rfl
theorem aeF(w:Nat):cf ((w:Int).toNat) (ab.int 0)=(cf w 0).map .n:=aH (mf ..) aeG rfl
theorem aeH(w:Nat):(aK w).map (λJ=>ab.n 0)=(cf w 0).map .n:=aH aeG DW (aa fh rfl)
theorem aeI{l:List Nat}{k:Bool->Prop}(e:v=aJ l)(h:k false):bB (nT σ .NotEq (aJ l) v) k:=by subst e;exact NA h
section
variable{X:Cx}(CK:uH X)(P:AX){n:Nat}{K:ab->aq->Prop}{σ:aq}{cq:List Int}{i:Nat}{x y z:Int}{w p size s:Nat}
include CK P
theorem aeJ(hs:cq.length≤100)(hi:i≤100)(g:iC w p s size)(hl:ls.length=w)(G:bl (60 / w+8) (je w (aW s size w p)) ls σ Ls)(B:NI Ls (aA (aW s size w p) (aF (ga z size) (aW s size w p) p))){u:Option ab}(h:∀σ',K (.bool true) σ') :
  dy X (n+10) (lY.body.drop 12) (i5 K) {m:=gM cq i x y z w p size s (some dv) (some (b0 ls p)) (some (eA ((aW s size w p).map bP))) u none (some (.bytes (ga z size))),fz:= [],σ:=σ}:=by
 have O:=P.oct w p s size ls (ga z size) g hl (lK z size)
 have hP:nA size (ga z size) (bp Ls ((aW s size w p).drop p)):=(O.Fp B.D).mpr (by
  rw [fx];intro b hb;obtain ⟨y,_,rfl⟩:=bF.mp hb;exact decide_eq_true nofun)
 exact Mine.Internal.gm CK.c ⟨kN,E2 CK.c O.B (by refine aa (lK ..) ?_;exact ag g.sF (nb rfl)) G λaD G1=>⟨λJ=> .fz lk (bf.f (Fq _) (aeA CK P hs hi g hl G1 (λk=>B.wn k▸da _) B.F B.D h)),λhn=>absurd hP hn⟩⟩
theorem aeK(hs:cq.length≤100)(hi:i≤100)(g:iC w p s size)(hl:ls.length=w)(G:bl (60 / w+8) (je w (aW s size w p)) ls σ Ls)(h0:qz Ls){u:Option ab}(h:∀σ',K (.bool true) σ') :
  dy X (n+10) (lY.body.drop 9) (i5 K) {m:=gM cq i x y z w p size s (some dv) (some (b0 ls p)) (some (eA ((aW s size w p).map bP))) u none (some (.bytes (ga z size))),fz:= [],σ:=σ}:=by
 have O:=P.oct w p s size ls (ga z size) g hl (lK z size)
 have dG:Ls.length=ls.length:=G.len
 have oZ:(aK ls.length).length≤1000:=jC (ag O.B.T.gF (nb rfl))
 have hw:w≤1000000:=ag g.w6 (nb rfl)
 let S':aq->St:=λσ=>{m:=gM cq i x y z w p size s (some dv) (some (b0 ls p)) (some (eA ((aW s size w p).map bP))) u none (some (.bytes (ga z size))),fz:= [],σ:=σ}
 refine join S' (λaD=>bl (60 / w+8) (je w (aW s size w p)) ls aD (iB 3 (aA (aW s size w p) (aF (ga z size) (aW s size w p) p)) Ls)) (λK' k J=>Mine.Internal.gm CK.c (MX CK.c O.B.T G (λk=>h0.wn k▸da _) (by refine aa (lK ..) ?_;exact ag g.sF (nb rfl)) g.p1 g.p3 (aa hl g.pw) (af:=aW s size w p) (aH (lK ..) hl rfl) O.B.uF O.B.km O.cp (cy:=3) (λk hk=>ff ((h0.out k).symm.trans hk))
  λaD G1=>bf.f (aa h0.ar rfl) (k aD _ G1 rfl))) λaD G1=>Mine.Internal.gm CK.c (M7 CK.c O.B.T G1 λaQ sE G2 iV aeL=> ?_)
 have B:=aeC O h0 dG G2.len aeL
 generalize iB 3 (aA (aW s size w p) (aF (ga z size) (aW s size w p) p)) Ls=qy at *
 refine Mine.Internal.gm CK.c (E7 CK.c O.B.T.gF (fe [false,false,false,false,false,false,false,false,false,false,false,false,false,false,false,false,true] (aK ls.length) (λk=> .ref (ls.getD k 0)) (λJ=> .n 0) (k5 oZ) (λk hk K' kk=> ?_) (j0 (ws:=(cf w 0).map ab.n) (aa hl (aeH w)) (by refine aa (aC ..) (aa pP ?_);exact ag g.w6 (nb rfl)) ?_) (E5 ls)))
 ·obtain ⟨fs,G2⟩:=G2;obtain ⟨gg,a,b,mem,aZ,DD⟩:=G2.at_ k (fU.mp hk)
  have e0:aZ.length=0:=DD.wn.trans (B.wn k)
  exact bX DD.lf (v:= .ref (fs.getD k lE).d) (DD.dk.aI CK.c (acz CK.c DD.dk (e0▸da _) (kk _ _ (congrArg ab.n e0) rfl)))
 ·exact .fz lk ⟨⟨eh w,dT.mpr (ag g.w6 (nb rfl))⟩,aeI (congrArg ab.list (aeF w)) (aeJ CK P hs hi g hl G2 B h)⟩
theorem aeM(hs:cq.length≤100)(hi:i≤100)(g:iC w p s size)(hl:ls.length=w)(G:bl (60 / w+8) (je w (aW s size w p)) ls σ Ls)(h0:qz Ls)(h:∀σ',K (.bool true) σ') :
  dy X (n+10) (lY.body.drop 7) (i5 K) {m:=gM cq i x y z w p size s (some dv) (some (b0 ls p)) (some (eA ((aW s size w p).map bP))) (some (.n (nF (aW s size w p)))) none none,fz:= [],σ:=σ}:=by
 subst hl
 have O:=P.oct _ p s size ls (ga z size) g rfl (lK z size)
 obtain ⟨ha,uo⟩:=P.AZ _ p s size g
 have xJ:ls.length≤1000:=ag O.B.T.gF (nb rfl)
 have dB:p≤1000:=ag g.p3 (nb rfl)
 have hz:size≤1000:=ag g.sF (nb rfl)
 have oZ:=NH (ig g.w2)
 have Fx:60 / ls.length≤60:=om _ _
 have ec: -(fQ (-((nF (aW s size ls.length p):Nat):Int)) ((p:Int)+1))=(((nF (aW s size ls.length p)+p) / (p+1):Nat):Int):=E4 _ (p+1) (rI p)
 let S':St:={m:=gM cq i x y z ls.length p size s (some dv) (some (b0 ls p)) (some (eA ((aW s size ls.length p).map bP))) (some (.n (nF (aW s size ls.length p)))) none none,fz:= [],σ:=σ}
 refine join (λ_:Unit=>S') (λJ=>True) (λK' k J=>Mine.Internal.gm CK.c (E8 CK.c O.B.T (λJ=>true) (λk hk=> ?_) (λJ=>⟨⟨oI.mpr (fH oZ),cY (k6 xJ)⟩,⟨cY (x:=60 / ls.length+4) (ag (gz Fx 4) (nb rfl)),cY (k6 xJ)⟩,bf.f (by refine aa (NG rfl) (aa (dt rfl) ?_);rfl) ?_⟩) λf6=>ff (f6 0 oZ).symm)) λJ J=> ?_
 ·obtain ⟨fs,G⟩:=G;exact aa (if_pos rfl) (⟨_,_,_,_,G.at_ k hk⟩)
 ·refine Mine.Internal.gm CK.c (ach CK.c hz g.p1 g.p3 g.pw O.B.T.gF ⟨⟨oI.mpr (Mq p),cY (x:=p+1) (ag (fO dB) (nb rfl))⟩,⟨⟨by refine aa ec ?_;exact cY (ag (om _ _) (ag (fL uo dB) (nb rfl))),cY (x:=p+1) (ag (fO dB) (nb rfl))⟩,
   bf.f (congrArg Bool.not (dt (by refine aa ec (aa ha ?_);exact aeo ..))) (k () _ trivial rfl)⟩⟩)
 ·refine ⟨rg hz,fe [false,false,false,false,false,false,false,false,false,false,false,false,false,false,false,false,true] (aK size) .n (λk=> .int ((kF (1+((z+37*(k:Nat)).fmod 255).toNat)).toNat)) (jC (k5 hz)) (λk hk K' kk=> ?_) (j0 (aeE z size) (by refine aa (wZ ..) (aa (lK ..) ?_);exact hz) (wN (aa (lK ..) (k6 hz)) (jj (aeK CK P hs hi g rfl G h0 h)))) (i7 _)⟩;refine ⟨⟨by decide,cY (ag (bO (fU.mp hk)) (k6 hz))⟩,by decide,kk _ _ (congrArg ab.int (aeD z k).symm) rfl⟩
end
theorem aeN(z:Int):∃m:Nat,max (1:Int) (min 2 z)=m/\m≤2 :=
 ⟨_,(tI (ic (by decide) (Int.le_max_left 1 _))).symm,tW.mpr (Int.max_le.mpr ⟨by decide,Int.min_le_left ..⟩)⟩
theorem aeO:∀a<5,min (3:Int) (((2+a:Nat):Int) - 1)=((min 3 (1+a):Nat):Int):=by decide
theorem NK(l:List Nat):(l.map λ(x:Nat)=>(x:Int)).sum=(l.sum:Nat):=by
 induction l with
 | nil=>rfl
 | cons x l ih=>refine aa eN (aa rR (aa rR (aa ih ?_)));rfl
theorem gU.make{S row:Nat}{d b w m r:Addr}{g:Int}{mem:List UInt8}(ha:σ a=some (.inst 739 (qv d g m)))(hd:f7 σ d b w false 0 0 mem [])(hr:jH σ m r false)(hl:mem.length=4*S)(nd:w≠r) :
  mD S row aP σ a ⟨d,b,w,m,r⟩ ⟨false,false,win mem (2+row) aP,0⟩:=⟨g,0,0,mem,[],ha,hd,hr,hl,λx hx=>(by cases hx),rfl,rfl,nd⟩
theorem sG{q:Addr}(h:σ a=none)(e:σ q=some o):q≠a:=λh'=>nn (h.symm.trans (ao h' e))
theorem lF.leaf{S:Nat}{fs:List Ft}(G:lF S ws ls σ fs Ls){d b w m r:Addr}{g:Int}(hd:σ d=none)(hb:σ b=none)(hw:σ w=none)
  (D1:f7 aD d b w false 0 0 (cf (4*S) 0) []) (k1:∀x,x≠d->x≠b->x≠w->aD x=σ x) (ha:aD a=none) (hm:aD m=none) (hr:aD r=none) (e2:aQ a=some (.inst 739 (qv d g m))) (R2:jH aQ m r false) (k2:∀x,x≠a->x≠m->x≠r->aQ x=aD x) :
  lF S ws (ls++ [a]) aQ (fs++ [⟨d,b,w,m,r⟩]) (Ls++ [L0 S ws ls.length]):=by
 have keep:∀{q o},aD q=some o->aQ q=some o:=λe=>(k2 _ (sG ha e) (sG hm e) (sG hr e)).trans e
 have old:∀{q},aD q=none->σ q=none:=λ{q} h=>(k1 q (sG h D1.d).symm (sG h D1.b).symm (sG h D1.w).symm).symm.trans h
 refine G.push (gU.make e2 ⟨keep D1.d,keep D1.b,keep D1.w⟩ R2 (aa pP rfl) (sG hr D1.w)) (λx hx=> ?_) λq hq=> ?_
 ·change x∈ [a,d,b,w,m,r] at hx
  simp only [bq,dJ,or_false] at hx
  rcases hx with rfl | rfl | rfl | rfl | rfl | rfl
  ·exact old ha
  ·exact hd
  ·exact hb
  ·exact hw
  ·exact old hm
  ·exact old hr
 ·have h1:=k1 q (λe=>hq (aa e hd)) (λe=>hq (aa e hb)) λe=>hq (aa e hw)
  have FD:aD q≠none:=aa h1 hq
  exact (k2 q (λe=>FD (e▸ha)) (λe=>FD (e▸hm)) λe=>FD (aa e hr)).trans h1
structure A0(S:Nat)(ws:List (Nat×Nat))(i:Nat)(acc:List ab)(y:aq×List Addr):Prop where
 len:y.2.length=i
 acc:acc=y.2.map .ref
 G:bl S ws y.2 y.1 ((aK i).map (L0 S ws))
theorem A0.step{S i:Nat}{acc:List ab}{y:aq×List Addr}(M:A0 S ws i acc y){d b w m r:Addr}{g:Int}(hd:y.1 d=none)(hb:y.1 b=none)(hw:y.1 w=none)
  (D1:f7 aD d b w false 0 0 (cf (4*S) 0) []) (k1:∀x,x≠d->x≠b->x≠w->aD x=y.1 x) (ha:aD a=none) (hm:aD m=none) (hr:aD r=none) (e2:aQ a=some (.inst 739 (qv d g m))) (R2:jH aQ m r false) (k2:∀x,x≠a->x≠m->x≠r->aQ x=aD x) :
  A0 S ws (i+1) (acc++ [.ref a]) (aQ,y.2++ [a]) where
 len:=by refine aa de (aa M.len ?_);rfl
 acc:=by refine aa M.acc (aa gR ?_);rfl
 G:=by
  refine iE M.G λfs G=> ?_
  have G2:=G.leaf hd hb hw D1 k1 ha hm hr e2 R2 k2
  rw [M.len] at G2
  refine aa zW (aa gR ?_);exact ⟨_,G2⟩
theorem aeP(l:List bG):(l.map bP).map (λq=>ab.n q.2.2)=((l.map λc=>c.2.2.1).map λ(x:Nat)=>(x:Int)).map .int:=by refine aH dj dj (aa dj ?_);rfl
section
variable{X:Cx}(CK:uH X)(P:AX){n:Nat}{K:ab->aq->Prop}{σ:aq}{cq:List Int}{i:Nat}{x yy z:Int}{w p size s:Nat}
include CK P
theorem aeQ(hs:cq.length≤100)(hi:i≤100)(g:iC w p s size)(hl:ls.length=w)(G:bl (60 / w+8) (je w (aW s size w p)) ls σ Ls)(h0:qz Ls)(h:∀σ',K (.bool true) σ') :
  dy X (n+10) (lY.body.drop 6) (i5 K) {m:=gM cq i x yy z w p size s (some dv) (some (b0 ls p)) (some (eA ((aW s size w p).map bP))) none none none,fz:= [],σ:=σ}:=by
 have O:=P.oct w p s size ls (ga z size) g hl (lK z size)
 have hcl:(aW s size w p).length≤1000:=ag O.B.km (nb rfl)
 refine fe [false,false,false,false,false,false,false,false,false,false,false,false,false,false,false,false,true] ((aW s size w p).map bP) oV (λq=> .n q.2.2) (aa (aC ..) (k5 hcl)) (λq J K' kk=>kk _ _ rfl rfl) (j0 (aeP _) (by refine aa (aC ..) (aa (aC ..) (aa (aC ..) ?_));exact hcl) (Zm (λq hq=> ?_) (by refine aa (aC ..) (aa (aC ..) ?_);exact k6 hcl) ?_))
 ·refine aB (bF.mp hq) λm hm a0=> ?_;subst a0;refine aB (bF.mp hm) λc hc a0=> ?_;subst a0;exact ⟨eh _,dT.mpr (ag (O.B.xw c hc).1 (nb rfl))⟩
 exact aa (NK ..) (jj (aeM CK P hs hi g hl G h0 h))
theorem aeR(hs:cq.length≤100)(hi:i≤100)(g:iC w p s size)(hl:ls.length=w)(G:bl (60 / w+8) (je w (aW s size w p)) ls σ Ls)(h0:qz Ls)(h:∀σ',K (.bool true) σ') :
  dy X (n+10) (lY.body.drop 5) (i5 K) {m:=gM cq i x yy z w p size s (some dv) (some (b0 ls p)) none none none none,fz:= [],σ:=σ}:=by
 refine o4 (P.AY w p s size g) λnu uw aeS=> ?_
 have pc:∀{K:ab->aq->Prop} (t:Bool),t=gS s p->K (eA ((aW s size w p).map bP)) σ->az X (n+10) (.ref 757) [.n s, .int (-(fQ (-(size:Int)) 4)), .n w, .n p, .bool t] [] K σ:=by
  rintro K _ rfl k
  exact aa (show -(fQ (-(size:Int)) 4)=(((size+3) / 4:Nat):Int) from E4 size 4 (nb rfl)) (adh CK.c (ag (Al (gz g.sF 3)) (nb rfl)) g.p3 g.pw (ag g.w6 (nb rfl)) uw (λht=>⟨aeS ht,g.w2⟩) (aa nu k))
 let S':St:={m:=gM cq i x yy z w p size s (some dv) (some (b0 ls p)) (some (eA ((aW s size w p).map bP))) none none none,fz:= [],σ:=σ}
 refine join (λ_:Unit=>S') (λJ=>True) (λK' k J=>⟨⟨by decide,by decide⟩,rU (a:=p) (b:=1) (λq=>⟨⟨by decide,by decide⟩,by decide,pc _ ?_ (k () _ trivial rfl)⟩) λq=>pc _ ?_ (k () _ trivial rfl)⟩) λJ J=>aeQ CK P hs hi g hl G h0 h
 ·rewrite [gS];refine aa (dt q) (aa (Mr ..) ?_);exact decide_eq_decide.mpr kE
 ·rewrite [gS];refine aa (df q) (aa (H5 ..) ?_);exact df λh=>q (kE.mp h)
theorem aeT(hs:cq.length≤100)(hi:i≤100)(g:iC w p s size)(h:∀σ',K (.bool true) σ') :
  dy X (n+10) (lY.body.drop 4) (i5 K) {m:=gM cq i x yy z w p size s (some dv) none none none none none,fz:= [],σ:=σ}:=by
 have hw:w≤1000:=ag g.w6 (nb rfl)
 let S':aq×List Addr->St:=λy=>St.GN {m:=gM cq i x yy z w p size s (some dv) none none none none none,fz:= [],σ:=y.1} 2
 refine ⟨rg hw,Ee [false,false,false,false,false,false,false,false,false,false,false,false,false,false,false,false,true] (aK w) .n S' (A0 (60 / w+8) (je w (aW s size w p))) (σ,[]) ⟨rfl,rfl,[],rfl,rfl,λJ=>nofun,λJ J=>nofun⟩ (jC (k5 hw)) (λJ=>dW) (λk k' acc y K' ek M kk=> ?_) (λacc y M=> ?_) (i7 _)⟩
 ·obtain ⟨rfl,hk⟩:=qk ek;refine ⟨⟨(oI.mpr (fH (NH (ig g.w2)))),cY (k6 hw)⟩,ady CK (z:=60 / w+8) (ag (gz (om _ _) 8) (nb rfl)) λd b wt aD hd hb EM n1 n2 n3 D1 k1=>adz CK λa m r aQ ha hm hr n4 n5 n6 e2 R2 k2=>kk _ (aQ,y.2++ [a]) _ (M.step hd hb EM D1 k1 ha hm hr e2 R2 k2) rfl⟩
 ·have hl:=M.len.trans fh
  have G:=M.G
  rw [fh] at G
  exact aa M.acc (Z1 (aa hl hw) (adB CK (jj (aeR CK P hs hi g hl G aeB h))))
theorem aeU(hs:cq.length≤100)(hi:i≤100)(g:iC w p s size)(h:∀σ',K (.bool true) σ') :
  dy X (n+10) (lY.body.drop 3) (i5 K) {m:=gM cq i x yy z w p size s none none none none none none,fz:= [],σ:=σ} :=
 adw CK (jj (aeT CK P hs hi g h))
theorem aeV(hs:cq.length≤100)(hi:i≤100){v:Int}{a:Nat}(ev:v=((2+a:Nat):Int))(ha:a<5)(h:∀σ',K (.bool true) σ') :
  dy X (n+10) (lY.body.drop 2) (i5 K) {m:= [some (.list (cq.map .int)),some (.n i),some (.int x),some (.int yy),some (.int z),some (.int v),none,none,none,none,none,none,none,none,none],fz:= [],σ:=σ}:=by
 subst ev
 have NL:=aeO a ha
 refine aB (uO (x.fdiv 5) (min 3 (1+a)) (Nat.lt_min.mpr ⟨by decide,et ac7 (b6 1 a)⟩)) λb eb hb=>aB (uO yy 28 (nb rfl)) λc ec hc=> ?_;refine aB (uO (yy.fdiv 28) 20 (nb rfl)) λd ed hd=> ?_
 let S':Unit->St:=λJ=>{m:=gM cq i x yy z (2+a) (1+b) (1+c) d none none none none none none,fz:= [],σ:=σ}
 refine join S' (λJ=>True) (λK' k J=>⟨⟨by decide,by decide⟩,K8 ⟨aa NL (Fd (il.mpr (eB (da b) hb))),⟨by decide,⟨by decide,by decide⟩,by decide, ?_⟩⟩⟩) λJ J=>aeU CK P hs hi ⟨b6 ..,lL (o5 ha) 2,b6 ..,ag (bS (lg ..)) (ag hb (kB ..)),et (wK (et hb (jW ..)) 1) (bS (j9 1 1 a).symm),b6 ..,ag (bS (lg ..)) hc,hd⟩ h;refine k () _ trivial (congrArg (λt:Int×Int×Int=>({m:= [some (.list (cq.map .int)),some (.n i),some (.int x),some (.int yy),some (.int z),some (.n (2+a)),some (.int t.1),some (.int t.2.1),some (.int t.2.2),none,none,none,none,none,none],fz:= [],σ:=σ}:St)) (?_:(1+mS (fQ x 5) (min 3 (((2+a:Nat):Int) - 1)),1+mS yy 28,mS (fQ yy 28) 20)=(((1+b:Nat):Int),((1+c:Nat):Int),(d:Int))));refine aa NL (aa (lS ..) (aH (lS ..) (lS ..) (aH (pr ..) (pr ..) (aH eb (show yy.fmod 28=c from ec) (aa (show (yy.fdiv 28).fmod 20=d from ed) ?_)))))
 rfl
theorem aeW(hs:cq.length≤100)(hi:i≤90)(h:∀σ',K (.bool true) σ'):az X (n+11) (.ref 798) [.list (cq.map .int), .n i] [] K σ:=by
 have FE:∀{K:ab->aq->Prop} k,k≤100->(∀x,K (.int x) σ)->az X (n+10) (.ref 750) [.list (cq.map .int), .n k] [] K σ:=λk hk h=>E9 CK.c (ag hs (nb rfl)) (ag hk (nb rfl)) (.inl rfl) (h _)
 let S1:Int×Int×Int->Option ab->St:=λt v=>{m:= [some (.list (cq.map .int)),some (.n i),some (.int t.1),some (.int t.2.1),some (.int t.2.2),v,none,none,none,none,none,none,none,none,none],fz:= [],σ:=σ}
 refine CK.c.call 78 rfl rfl (join (λt=>S1 t none) (λJ=>True) (λK' k J=>FE i (ag hi (nb rfl)) λx=>FE (i+1) (ag (gz hi 1) (nb rfl)) λy=>FE (i+2) (ag (gz hi 2) (nb rfl)) λz=>k (x,y,z) _ trivial rfl) λt J =>
  join (λ_:Unit=>S1 t (some (.int (2+mS t.1 5)))) (λJ=>True) (λK' k J=>⟨by decide,k () _ trivial rfl⟩) λJ J=> ?_)
 exact aB (uO t.1 5 (nb rfl)) λa ea ha=>aeV CK P hs (ag hi (nb rfl)) (by refine aa (lS ..) (aa (show t.1.fmod 5=a from ea) ?_);rfl) ha h
theorem aeX{sv:ab}(hv:lu σ sv (cq.map .int))(hl:cq.length≤1000)(h:∀σ',K (.bool true) σ'):az X (n+12) (.ref 805) [sv] [] K σ:=by
 have m0:∀sc:List Int,sc.length≤63->dy X (n+11) (HB.body.drop 1) (i5 K) {m:= [some (.list (sc.map .int)),none],fz:= [],σ:=σ}:=by
  intro sc ht;refine aB (aeN (fQ (sc.length:Int) 5)) λm em hm=> ?_
  let S':aq->St:=λσ=>{m:= [some (.list (sc.map .int)),none],fz:= [],σ:=σ}
  refine cu (k:=sc.length) (congrArg some (aC _)) (ag ht (nb rfl)) ⟨⟨by decide,by decide⟩,K8 (Zj ?_)⟩;refine ⟨aa em (rg (ag hm (nb rfl))),loop [false,true] (aK m) .n S' (λJ J=>True) σ trivial (λJ J J=>dW) (λi i' σ' K' ei J k J=> ?_) (λσ' J=>h σ') (aa em (i7 _))⟩;obtain ⟨rfl,hi⟩:=qk ei;refine ⟨⟨by decide,cY (ag (bO hi) (ag hm (nb rfl)))⟩, ?_⟩;exact aeW CK P (ag ht (nb rfl)) (ag (c8 5 (bO (et hi hm))) (nb rfl)) λaQ=>k aQ _ trivial rfl
 have ht:(cq.take 63).length≤63:=ND ..
 refine CK.c.call 79 rfl rfl ?_;rcases hv with rfl | ⟨a,rfl,e⟩
 ·exact Ae (k:=63) (nb rfl) hl λws ew=>jj (m0 ws (aa ew ht))
 ·exact Fa (k:=63) e (nb rfl) (aa (aC ..) hl) (ao xe (jj (m0 _ ht)))
end
noncomputable def exts:List Nat->Nat->List (List Nat)
 | [],_=> [[]]
 | x::l,0=>exts l 0
 | x::l,k+1=>(exts l k).map (λz=>x:: z)++exts l (k+1)
theorem FG{l E:List Nat}(h:E.Sublist l):∀{k:Nat},E.length≤k->E∈exts l k:=by
 induction h with
 | slnil=>intro k _;exact dL.mpr rfl
 | cons x h ih =>
  intro k hk;cases k with
  | zero=>exact ih hk
  | succ k=>exact jg.mpr (.inr (ih hk))
 | cons_cons x h ih =>
  intro k hk;cases k with
  | zero=>simp at hk
  | succ k=>exact jg.mpr (.inl (nj (ih (by simpa using hk))))
theorem aeY:∀{a:Nat} {l:List Nat},l.Pairwise (λz b9=>z < b9)->(∀x∈l,a≤x/\x<a+k)->l.Sublist (gZ a k):=by
 induction k with
 | zero =>
  intro a l _ h;rcases l with _ | ⟨x,l⟩
  ·exact .slnil
  ·exact absurd (h x (.head _)).2 (dA.mpr (h x (.head _)).1)
 | succ k ih =>
  intro a l hp h;rcases l with _ | ⟨x,l⟩
  ·exact List.nil_sublist _
  have xh:=p4.mp hp
  refine aa DV ?_
  have hx:=h x (.head _)
  have up:∀{y},y<a+(k+1)->y<a+1+k:=λ{y} h=>by refine aa (j9 ..) (aa (lg 1 k) ?_);exact h
  by_cases q:x=a
  ·subst q;exact .cons_cons _ (ih xh.2 λy hy=>⟨xh.1 y hy,up (h y (.tail _ hy)).2⟩)
  ·have q:=DM hx.1 (iM q)
   refine .cons _ (ih hp λy hy=>⟨?_,up (h y hy).2⟩);rcases bq.mp hy with e | hy
   ·exact e▸q
   ·exact ag q (bO (xh.1 y hy))
theorem NM{l:List Nat}(h:l.Nodup):(bz l).Pairwise (λz b9=>z < b9):=by
 have h1:((bz l).map λ(x:Nat)=>(x:Int)).Pairwise (λz b9=>z ≤ b9):=by refine ao (uD ..) ?_;exact zN _
 rw [we] at h1
 have h2:(bz l).Pairwise (λz b9=>z ≠ b9):=AP h
 exact (h1.and h2).imp λh=>DM (dT.mp h.1) h.2
theorem aeZ(q:α->Prop) [DecidablePred q](f:α->Nat):∀l:List α,(l.filterMap λx=>if q x then none else some (f x)).Sublist (l.map f):=by
 intro l
 induction l with
 | nil=>exact .slnil
 | cons x l ih =>
  refine aH lz eN ?_
  by_cases h:q x
  ·simp only [if_pos h];exact .cons _ ih
  ·simp only [if_neg h];exact .cons_cons _ ih
theorem NN(hs:List (Option (List UInt8))):(gV hs).Sublist (aK hs.length):=by
 have h:=aeZ (λx:Option (List UInt8)×Nat=>x.1.isSome=true) (λx=>x.2) hs.zipIdx
 have e:hs.zipIdx.map (λx=>x.2)=aK hs.length:=by
  exact aH Jm (show (λx:Option (List UInt8)×Nat=>x.2)=wd from rfl) (aa (List.zipIdx_map_snd ..) rfl)
 rw [e] at h
 exact h
noncomputable def NO(n p:Nat)(g:List Nat):Bool:=match gk n g p 100 [g] 0 with
 | none=>false
 | some r=>decide (r.length≤1000)&&(r.all λl=>decide (l.length≤p)&&decide l.Nodup&&l.all λx=>decide (x<n))&&(exts ((aK n).filter λx=> !g.contains x) (p - g.length)).all λE=>r.contains (g++E)
theorem ae0:∀n∈ [2,3,4,5,6],∀p∈ [1,2,3],p<n->∀g∈exts (aK n) p,NO n p g=true:=by decide +kernel
noncomputable def xs(l:List Nat):Nat:=l.foldr (λz b9=>z ^^^ b9) 0
noncomputable def xK(m:Nat)(bH cx:List Nat)(inv:bj):Bool :=
 (aK bH.length).all λi=>bH.all λq=> [1,2,4,8,16,32,64,128].all λb =>
  decide (xs ((aA (inv.getD i []) cx).map λx=>dm (dm b (gj 2 (x.2*(m - 1 - q)))) x.1)=if bH.getD i 99=q then b else 0)
noncomputable def xM(n p:Nat)(l:List Nat):Bool :=
 let bH:=cL p l
 let cx:=(fj p l).take bH.length
 (bH.all λq=>decide (q<n - p))&&decide (bH.length≤6)&&decide (bH.length≤(fj p l).length)&&match qm (oG (n - p) bH cx) with
 | none=>false
 | some inv=>decide (inv.length=bH.length)&&(inv.all λr=>decide (r.length=bH.length)&&r.all λx=>decide (x<256))&&xK (n - p) bH cx inv
theorem ae1:∀n∈ [2,3,4,5,6],∀p∈ [1,2,3],p<n->∀l∈exts (aK n) p,xM n p l=true:=by decide +kernel
theorem FH(x:Nat):eH x=(x <<< 1) ^^^ (if 127<x then 285 else 0):=by
 unfold eH;refine aa (Nat.shiftLeft_eq ..) (aa (Nat.pow_one ..) ?_)
 split
 ·rfl
 ·exact aa (qA ..) rfl
theorem FI{x:Nat}(h:x<256):decide (127<x)=x.testBit 7:=by
 have:∀x:Fin 256,decide (127<x.1)=x.1.testBit 7:=by decide +kernel
 exact this ⟨x,h⟩
theorem FJ(a b c d:Nat):(a ^^^ b) ^^^ (c ^^^ d)=(a ^^^ c) ^^^ (b ^^^ d):=by
 refine aH (uP ..) (uP ..) ?_;congr 1;exact sL (uP ..) (uP ..) (aa (ae2 b c) rfl)
theorem NP{a b:Nat}(ha:a<256)(hb:b<256):eH (a ^^^ b)=eH a ^^^ eH b:=by
 refine aH (FH ..) (FH ..) (aH (FH ..) Nat.shiftLeft_xor_distrib (aa (FJ ..) ?_))
 congr 1
 have h:=FI (wW ha hb)
 rw [Nat.testBit_xor,<-FI ha,<-FI hb] at h
 by_cases h1:127<a<;>by_cases h2:127<b<;>simp only [h1,h2,decide_true,decide_false] at h<;>simp at h
 ·exact aH (if_neg (dA.mpr h)) (if_pos h1) (aa (if_pos h2) (aa (FK ..) rfl))
 ·exact aH (if_pos h) (if_pos h1) (aa (if_neg h2) (aa (qA ..) rfl))
 ·exact aH (if_pos h) (if_neg h1) (aa (if_pos h2) (aa (tR ..) rfl))
 ·exact aH (if_neg (dA.mpr h)) (if_neg h1) (aa (if_neg h2) (aa (qA ..) rfl))
theorem ae3:∀{f f' x x' y:Nat},x<256->x'<256->i6 k (f ^^^ f') (x ^^^ x') y=i6 k f x y ^^^ i6 k f' x' y:=by
 induction k with
 | zero=>exact λJ J=>rfl
 | succ k ih =>
  intro f f' x x' y hx on;refine (?_:(if 0<y then i6 k (if y &&& 1=1 then (f ^^^ f') ^^^ (x ^^^ x') else f ^^^ f') (eH (x ^^^ x')) (y / 2) else f ^^^ f')=(if 0<y then i6 k (if y &&& 1=1 then f ^^^ x else f) (eH x) (y / 2) else f) ^^^ (if 0<y then i6 k (if y &&& 1=1 then f' ^^^ x' else f') (eH x') (y / 2) else f'))
  by_cases q:0<y
  ·refine aH (if_pos q) (if_pos q) (aH (if_pos q) (NP hx on) (ao (ih (rV hx) (rV on)) ?_))
   by_cases q2:y &&& 1=1
   ·exact aH (if_pos q2) (if_pos q2) (aH (if_pos q2) (FJ ..) rfl)
   ·exact aH (if_neg q2) (if_neg q2) (aa (if_neg q2) rfl)
  ·exact aH (if_neg q) (if_neg q) (aa (if_neg q) rfl)
theorem FL{a b:Nat}(y:Nat)(ha:a<256)(hb:b<256):dm (a ^^^ b) y=dm a y ^^^ dm b y:=by
 have:=ae3 (k:=8) (f:=0) (f':=0) (y:=y) ha hb
 rwa [FK] at this
theorem ae4:∀{y:Nat},i6 k 0 0 y=0:=by
 induction k with
 | zero=>exact rfl
 | succ k ih =>
  intro y;refine (?_:(if 0<y then i6 k (if y &&& 1=1 then 0 ^^^ 0 else 0) 0 (y / 2) else 0)=0);exact aa (show (if y &&& 1=1 then 0 ^^^ 0 else 0)=0 from ite_self 0) (aa ih (aa (ite_self ..) rfl))
theorem A1(y:Nat):dm 0 y=0:=ae4
def sI(F:Nat->Nat):Prop:=F 0=0/\∀a b,a<256->b<256->F (a ^^^ b)=F a ^^^ F b
theorem ae5:∀n:Fin 8,∀y:Fin 128,y.1<2^n.1->2^n.1 ^^^ y.1=2^n.1+y.1:=by decide +kernel
theorem ae6:∀n:Fin 8,2^n.1∈ [1,2,4,8,16,32,64,128]:=by decide
theorem NQ{F G:Nat->Nat}(hF:sI F)(hG:sI G)(h:∀b∈ [1,2,4,8,16,32,64,128],F b=G b){x:Nat}(hx:x<256):F x=G x:=by
 suffices m0:∀n≤8,∀x,x<2^n->F x=G x from m0 8 (cb _) x hx
 clear hx x;intro n
 induction n with
 | zero=>intro _ x hx;exact aa (Nat.lt_one_iff.mp hx) (aa hF.1 (aa hG.1 rfl))
 | succ n ih =>
  intro hn x hx;rcases MH x (2^n) with q | q
  ·exact ih (ig hn) x q
  ·obtain ⟨y,rfl⟩:=Az q;rw [Nat.pow_succ,Nat.mul_two] at hx
   have hy:=acp hx
   have h7:2^n≤128:=Ln (n:=2) (i:=n) (j:=7) (nb rfl) (Jd hn)
   have h8:2^n<256:=eB h7 (nb rfl)
   exact ao (ae5 ⟨n,hn⟩ ⟨y,et hy h7⟩ hy) (aa (hF.2 _ _ h8 (FM hy h8)) (aa (hG.2 _ _ h8 (FM hy h8)) (aa (h _ (ae6 ⟨n,hn⟩)) (aa (ih (ig hn) y hy) rfl))))
noncomputable def gY:Nat->Nat->Nat
 | 0,x=>x
 | k+1,x=>eH (gY k x)
theorem A2{x:Nat}(h:x<256)(k):gY k x<256:=k.rec h λJ=>rV
theorem ae7(x:Nat)(a:Nat)(b):gY b (gY a x)=gY (a+b) x:=b.rec rfl λJ e=>congrArg eH e
theorem FN:∀k,sI (gY k):=by
 intro k
 induction k with
 | zero=>exact ⟨rfl,λJ J J J=>rfl⟩
 | succ k ih=>exact ⟨by show eH (gY k 0)=0;refine aa (ih.1) ?_;rfl,λa b ha hb=>by show eH (gY k _)=_;refine aa (ih.2 a b ha hb) (aa (NP (A2 ha k) (A2 hb k)) ?_);rfl⟩
theorem NR(y:Nat):sI λx=>dm x y:=⟨A1 y,λJ J ha hb=>FL y ha hb⟩
theorem NS{x:Nat}(hk:k≤8)(hx:x<256):dm x (gj 2 k)=gY k x:=by
 have base:∀k:Fin 9,∀b∈ [1,2,4,8,16,32,64,128],dm b (gj 2 k.1)=gY k.1 b:=by decide +kernel
 exact NQ (NR _) (FN k) (base ⟨k,uV hk⟩) hx
theorem ae8{l:List Nat}(h:∀x∈l,x<256):xs l<256:=by
 induction l with
 | nil=>decide
 | cons x l ih=>exact wW (h x (.head _)) (ih λy hy=>h y (.tail _ hy))
theorem A3(x:Nat)(l:List Nat):xs (x::l)=x ^^^ xs l:=rfl
theorem ae9{F:Nat->Nat}(hF:sI F){l:List Nat}(h:∀x∈l,x<256):F (xs l)=xs (l.map F):=by
 induction l with
 | nil=>exact hF.1
 | cons x l ih =>
  have hl:∀y∈l,y<256:=λy hy=>h y (.tail _ hy)
  exact (hF.2 _ _ (h x (.head _)) (ae8 hl)).trans (congrArg (λz=>F x ^^^ z) (ih hl))
theorem FO(f g:α->Nat)(l:List α):xs (l.map f) ^^^ xs (l.map g)=xs (l.map λx=>f x ^^^ g x):=by
 induction l with
 | nil=>exact FK 0
 | cons x l ih=>exact (FJ ..).trans (congrArg (λz=>f x ^^^ g x ^^^ z) ih)
theorem A4(l:List α):xs (l.map λJ=>0)=0:=by
 induction l with
 | nil=>rfl
 | cons x l ih=>exact (tR _).trans ih
theorem ae'(g:α->β->Nat)(B:List β)(A:List α):xs (A.map λa=>xs (B.map λb=>g a b))=xs (B.map λb=>xs (A.map λa=>g a b)):=by
 induction A with
 | nil=>exact (A4 B).symm
 | cons a A ih=>exact (congrArg (λz=>xs (B.map λb=>g a b) ^^^ z) ih).trans (FO ..)
theorem afa(y:Nat->Nat){n:Nat}{l:List Nat}(hn:l.Nodup)(h:n∈l):xs (l.map λq=>if n=q then y q else 0)=y n:=by
 induction l with
 | nil=>exact absurd h dJ
 | cons x l ih =>
  have hn:=fW.mp hn
  refine aa eN (aa (A3 ..) ?_)
  by_cases q:n=x
  ·subst q;exact aa (if_pos rfl) (aa (fV (g:=λJ=>0) λz hz=>if_neg λe:n=z=>hn.1 (e▸hz)) (aa (A4 ..) (aa (qA ..) rfl)))
  ·refine aa (if_neg q) (aa (tR ..) ?_);exact ih hn.2 ((bq.mp h).resolve_left q)
noncomputable def cg(b:List UInt8)(t:Nat):Nat:=(b.getD t 0).toNat
theorem A5(b:List UInt8)(t:Nat):cg b t<256:=qi _
theorem NT(t:Nat):cg [] t=0:=rfl
theorem NU:∀{a:List UInt8},b.length≤a.length->∀t,cg (ub a b) t=cg a t ^^^ cg b t:=by
 induction b with
 | nil=>intro a _ t;rcases a with _ | ⟨x,a⟩<;>exact (qA _).symm
 | cons y b ih =>
  intro a h t;rcases a with _ | ⟨x,a⟩
  ·exact absurd h (M9 _)
  rcases t with _ | t
  ·exact Z6 x y
  ·exact ih (Jd h) t
theorem A6(a b:List UInt8)(t:Nat):cg (d6 a b) t=cg a t ^^^ cg b t:=by
 unfold d6
 split
 ·next h=>rewrite [NU (bO h)];exact aa (ae2 ..) rfl
 ·next h=>exact NU (fA h) t
theorem NV:∀t:Nat,cg (jZ b) t=eH (cg b t):=by
 induction b with
 | nil=>exact λJ=>rfl
 | cons x b ih =>
  intro t;rcases t with _ | t
  ·exact Lw x
  ·exact ih t
theorem afb(w:Nat)(b:List UInt8)(t:Nat):cg (j3 w b) t=gY w (cg b t):=by
 induction w with
 | zero=>rfl
 | succ w ih=>refine aa LG (aa (NV ..) (aa ih ?_));rfl
theorem afc(t:Nat):∀{f x:List UInt8} {y:Nat},cg (qj k f x y) t=i6 k (cg f t) (cg x t) y:=by
 induction k with
 | zero=>exact rfl
 | succ k ih =>
  intro f x y;refine (?_:cg (if 0<y then qj k (if y &&& 1=1 then d6 f x else f) (jZ x) (y / 2) else f) t=(if 0<y then i6 k (if y &&& 1=1 then cg f t ^^^ cg x t else cg f t) (eH (cg x t)) (y / 2) else cg f t))
  by_cases q:0<y
  ·refine aH (if_pos q) (if_pos q) (aa ih (aa (NV ..) ?_))
   by_cases q2:y &&& 1=1
   ·exact aH (if_pos q2) (if_pos q2) (aa (A6 ..) rfl)
   ·exact aH (if_neg q2) (if_neg q2) rfl
  ·exact aH (if_neg q) (if_neg q) rfl
theorem afd{n:Nat}:∀{t:Nat},cg (cf n 0) t=0:=by
 induction n with
 | zero=>exact rfl
 | succ n ih =>
  intro t;rcases t with _ | t
  ·rfl
  ·exact ih
theorem NW(b:List UInt8)(f t:Nat):cg (mw b f) t=dm (cg b t) f:=by
 unfold mw;refine aa (afc ..) (aa afd ?_);rfl
theorem afe(t:Nat)(fs:List (Nat×List UInt8)):∀part:List UInt8,cg (qo part fs) t=cg part t ^^^ xs (fs.map λf=>dm (cg f.2 t) f.1):=by
 induction fs with
 | nil=>exact λJ=>(qA _).symm
 | cons f fs ih=>exact λpart=>(ih _).trans (aa (A6 ..) (aa (NW ..) (aa eN (aa (A3 ..) (aa (uP ..) rfl)))))
theorem aff(w t:Nat)(ps:List (List UInt8)):∀z:List UInt8,cg (ps.foldl (λf p=>d6 (j3 w f) p) z) t=gY (w*ps.length) (cg z t) ^^^ xs ((aK ps.length).map λq=>gY (w*(ps.length - 1 - q)) (cg (ps.getD q []) t)):=by
 induction ps with
 | nil=>exact λJ=>(qA _).symm
 | cons p ps ih =>
  intro z;refine aa mq (aa (ih ..) (aa (A6 ..) (aa (afb ..) (aa ((FN _).2 _ _ (A2 (A5 _ _) _) (A5 _ _)) (aa (ae7 ..) (aa nS (aa BH (aa eN (aa (A3 ..) (aa dj (aa (uP ..) ?_)))))))))));rewrite [lg w];refine ao (Nat.mul_succ ..) ?_
  congr 3
  exact fV λq J=>by show _=gY (w*(ps.length+1 - 1 - (q+1))) (cg (ps.getD q []) t);exact aa (Nat.add_sub_cancel ..) (aa (Nat.sub_right_comm ..) (aa (Nat.sub_sub ..) rfl))
theorem afg(m w t:Nat)(ar:List Nat)(ps:List (List UInt8×Nat)):∀row:List UInt8,cg (zV m w ar row ps) t=cg row t ^^^ xs (ps.map λp=>if p.2∈ar then 0 else dm (cg p.1 t) (gj 2 (w*(m - 1 - p.2)))):=by
 induction ps with
 | nil=>exact λJ=>(qA _).symm
 | cons p ps ih =>
  refine λrow=>(ih (if p.2∈ar then row else d6 row (mw p.1 (gj 2 (w*(m - 1 - p.2)))))).trans (aa eN (aa (A3 ..) ?_))
  by_cases q:p.2∈ar
  ·exact aa (if_pos q) (aa (if_pos q) (aa (tR ..) rfl))
  ·exact aa (if_neg q) (aa (if_neg q) (aa (A6 ..) (aa (NW ..) (aa (uP ..) rfl))))
section
variable {bH:List Nat}
theorem afh{fs:List (Nat×List UInt8)}:∀part:List UInt8,part.length≤(qo part fs).length/\∀f∈fs,f.2.length≤(qo part fs).length:=by
 induction fs with
 | nil=>exact λJ=>⟨cb _,λJ h=>absurd h dJ⟩
 | cons f fs ih =>
  intro part
  have h:=ih (d6 part (mw f.2 f.1))
  have h1:=h.1
  rw [lr,rY] at h1
  exact ⟨ag (Em ..) h1,λg hg=>(bq.mp hg).elim (λe=>ag (bS (congrArg (λf:Nat×List UInt8=>f.2.length) e)) (ag (LM ..) h1)) (h.2 g)⟩
theorem afi{ar:List Nat}{ps:List (List UInt8×Nat)}:∀row:List UInt8,row.length≤(zV m w ar row ps).length:=by
 induction ps with
 | nil=>exact λJ=>cb _
 | cons p ps ih =>
  refine λrow=>ag ?_ (ih (if p.2∈ar then row else d6 row (mw p.1 (gj 2 (w*(m - 1 - p.2))))))
  by_cases q:p.2∈ar
  ·exact aa (if_pos q) (cb _)
  ·refine aa (if_neg q) (aa (lr ..) ?_);exact Em ..
theorem afj{ps:List (List UInt8)}:∀z:List UInt8,z.length≤(ps.foldl (λf p=>d6 (j3 w f) p) z).length/\∀q∈ps,q.length≤(ps.foldl (λf p=>d6 (j3 w f) p) z).length:=by
 induction ps with
 | nil=>exact λJ=>⟨cb _,λJ h=>absurd h dJ⟩
 | cons p ps ih =>
  intro z
  have h:=ih (d6 (j3 w z) p)
  have h1:=h.1
  rw [lr,zU] at h1
  exact ⟨ag (Em ..) h1,λg hg=>(bq.mp hg).elim (λe=>ag (bS (congrArg rO e)) (ag (LM ..) h1)) (h.2 g)⟩
theorem afk{l:List (Nat×List UInt8)}:∀{ps:List (List UInt8)},(l.map (λz=>z.1)).Nodup->(∀x∈l,x.1<ps.length)->(∀x∈l,(putAll ps l)[x.1]? =some x.2)/\∀q,q∉l.map (λz=>z.1)->(putAll ps l)[q]? =ps[q]? :=by
 induction l with
 | nil=>exact λJ J=>⟨λJ h=>absurd h dJ,λJ J=>rfl⟩
 | cons x l ih =>
  intro ps hn hl
  have hn:=fW.mp hn
  have h:=ih (ps:=ps.set x.1 x.2) hn.2 λy hy=>aal (hl y (.tail _ hy)) kl.symm
  exact ⟨λy hy=>(bq.mp hy).elim (λe=>e▸(h.2 _ hn.1).trans (vE (hl x (.head _)))) (h.1 y),λq hq=>(h.2 q λe=>hq (.tail _ e)).trans (Cg λe:x.1=q=>hq (ao e (Bi ..)))⟩
theorem afl(d:α)(l:List α):l.zipIdx=(aK l.length).map λq=>(l.getD q d,q):=by
 apply wP
 intro i;rw [aaa,cW]
 by_cases q:i<l.length
 ·rw [zd q,bE q,AI,AI,cZ q,m4]
 ·rw [ir (fA q),ir (by refine aa fh ?_;exact fA q)];rfl
theorem afm(p:Nat)(ar:List Nat):fj p (bz ar)=fj p ar:=by
 unfold fj
 congr 1
 funext w
 by_cases h:w∈ar
 ·exact aH (if_pos h) (if_pos (oY.mpr h)) rfl
 ·exact aH (if_neg h) (if_neg (λq=>h (oY.mp q))) rfl
theorem afn{q:Nat}{l:List Nat}:q∈cL p l↔p+q∈l:=by
 unfold cL;rw [oE];refine ⟨λh=>h.elim λx h=> ?_,λh=>⟨p+q,h,aa (if_neg (dA.mpr (b6 ..))) (aa (nk ..) rfl)⟩⟩
 have e:=h.2
 by_cases hx:x<p
 ·rw [if_pos hx] at e;exact nn e
 ·rw [if_neg hx] at e;refine ao (aM e) (aa (lM (fA hx)) ?_);exact h.1
theorem afo{l:List Nat}(h:l.Pairwise (λz b9=>z < b9)):(cL p l).Nodup:=by
 refine abI _ (λa a' h b hb b' uu=> ?_) h
 by_cases q:a<p
 ·rw [if_pos q] at hb;exact nn hb
 have q':¬ a'<p:=λr=>q (FM h r)
 rw [if_neg q] at hb
 rw [if_neg q'] at uu
 exact sL (aM hb) (aM uu) (dz (Nat.sub_lt_sub_right (fA q) h))
theorem NX{n:Nat}{ar:List Nat}(hl:ar.length≤10)(h:xM n p (bz ar)=true):EY n p ar/\xK (n - p) (cL p (bz ar)) ((fj p ar).take (cL p (bz ar)).length) (nx n p ar)=true:=by
 unfold xM at h
 dsimp only at h
 rw [afm] at h
 unfold nx xu;cases hg:qm (oG (n - p) (cL p (bz ar)) ((fj p ar).take (cL p (bz ar)).length)) with
 | none=>rw [hg] at h;simp at h
 | some inv =>
  rw [hg] at h
  simp only [q9,decide_eq_true_eq,fx] at h
  obtain ⟨⟨⟨h1,h2⟩,h3⟩,⟨h4,h5⟩,h6⟩:=h;refine ⟨⟨hl,h1,h2,h3, ?_, ?_⟩,h6⟩
  ·unfold nx xu;refine aa hg ?_;rfl
  ·unfold nx xu;refine aa hg ?_;exact ⟨h4,λr hr=>⟨(h5 r hr).1,(h5 r hr).2⟩⟩
theorem afp{cx:List Nat}{inv:bj}(h:xK m bH cx inv=true){i q y:Nat}(hi:i<bH.length)(hq:q∈bH)(hy:y<256) :
  xs ((aA (inv.getD i []) cx).map λx=>dm (dm y (gj 2 (x.2*(m - 1 - q)))) x.1)=if bH.getD i 99=q then y else 0:=by
 have hF:sI λy=>xs ((aA (inv.getD i []) cx).map λx=>dm (dm y (gj 2 (x.2*(m - 1 - q)))) x.1):=by
  refine ⟨?_,λa b ha hb=> ?_⟩
  ·have:(aA (inv.getD i []) cx).map (λx=>dm (dm 0 (gj 2 (x.2*(m - 1 - q)))) x.1)=(aA (inv.getD i []) cx).map λJ=>0:=fV λx J=>aa (A1 ..) (aa (A1 ..) rfl)
   refine (?_:xs ((aA (inv.getD i []) cx).map λx=>dm (dm 0 (gj 2 (x.2*(m - 1 - q)))) x.1)=0);exact aa this (aa (A4 ..) rfl)
  ·dsimp only;refine aa (FO ..) ?_
   congr 1
   exact fV λx J=>aa (FL _ ha hb) (aa (FL _ (qh ha) (qh hb)) rfl)
 have hG:sI λy=>if bH.getD i 99=q then y else 0:=by
  refine ⟨by dsimp only;split<;>rfl,λa b J J=> ?_⟩;dsimp only
  split
  ·rfl
  ·rfl
 refine NQ hF hG (λb hb=> ?_) hy;unfold xK at h
 rw [fx] at h
 have h:=h i (fU.mpr hi)
 rw [fx] at h
 have h:=h q hq
 rw [fx] at h
 exact of_decide_eq_true (h b hb)
theorem NY{q:Nat}(hw:w<3)(hm:m≤5):w*(m - 1 - q)≤8:=ag (Lu (o5 hw) (ag (gE ..) (ZX hm 1))) (by decide)
theorem afq{cx:List Nat}{inv:bj}{f:Nat->List UInt8}{g:Nat->Nat}{t i:Nat}(A7:xK m bH cx inv=true)(hm:m≤5)(gp:∀w∈cx,w<3)(hg:∀q,g q<256)(hi:i<bH.length)(oH:bH.getD i 99<m)
  (iq:∀w∈cx,cg (f w) t=xs ((aK m).map λq=>if q∈bH then gY (w*(m - 1 - q)) (g q) else 0)):cg (qo [] (aA (inv.getD i []) (cx.map f))) t=g (bH.getD i 99):=by
 have FP:bH.getD i 99∈bH:=by refine aa (cZ hi) ?_;exact mu hi
 refine aa (afe ..) (aa (NT ..) (aa (tR ..) (aa List.zip_map_right (aa dj ?_))))
 have e1:(aA (inv.getD i []) cx).map ((λx:Nat×List UInt8=>dm (cg x.2 t) x.1) ∘ Prod.map id f)=(aA (inv.getD i []) cx).map λx=>xs ((aK m).map λq=>dm (if q∈bH then gY (x.2*(m - 1 - q)) (g q) else 0) x.1):=by
  refine fV λx hx=>(?_:dm (cg (f x.2) t) x.1=_);rw [iq x.2 (iz hx).2,ae9 (NR x.1) (λy hy=> ?_),dj]
  ·rfl
  ·obtain ⟨q,_,rfl⟩:=bF.mp hy
   by_cases h:q∈bH
   ·exact aa (if_pos h) (A2 (hg q) _)
   ·refine aa (if_neg h) ?_;decide
 refine aa e1 (aa (ae' ..) (ao (afa g Df (fU.mpr oH)) ?_))
 congr 1
 refine fV λq J=> ?_
 by_cases h:q∈bH
 ·refine ao (afp (y:=g q) A7 hi h (hg q)) ?_
  congr 1
  exact fV λx hx=>aa (if_pos h) (aa (NS (NY (gp x.2 (iz hx).2) hm) (hg q)) rfl)
 ·refine aa (if_neg (λe:bH.getD i 99=q=>h (ao e FP))) (JI ?_ (A4 (aA (inv.getD i []) cx)))
  congr 1
  exact fV λx J=>aa (if_neg h) (aa (A1 ..) rfl)
theorem afr{hd ps:List (List UInt8)}{t:Nat}(hl:hd.length=ps.length)(hm:ps.length≤5)(hw:w<3)(fF:∀q,q<ps.length->q∉bH->hd.getD q []=ps.getD q []) :
  cg (kH hd bH w (iu ps w)) t=xs ((aK ps.length).map λq=>if q∈bH then gY (w*(ps.length - 1 - q)) (cg (ps.getD q []) t) else 0):=by
 unfold kH;refine aa (afg ..) ?_;rewrite [iu];refine aa (aff ..) (aa (NT ..) (aa ((FN _).1) (aa (tR ..) ?_)));rewrite [afl []];refine aa dj (aa hl (aa (FO ..) ?_))
 congr 1
 refine fV λq hq=>(?_:gY (w*(ps.length - 1 - q)) (cg (ps.getD q []) t) ^^^ (if q∈bH then 0 else dm (cg (hd.getD q []) t) (gj 2 (w*(ps.length - 1 - q))))=_)
 by_cases h:q∈bH
 ·exact aa (if_pos h) (aa (if_pos h) (aa (qA ..) rfl))
 ·exact aa (if_neg h) (aa (if_neg h) (aa (fF q (fU.mp hq) h) (aa (NS (NY hw hm) (A5 _ _)) (aa (FK ..) rfl))))
theorem afs{a:List UInt8}(h:b.length≤a.length)(e:∀t,cg a t=cg b t):a.take b.length=b:=by
 refine List.ext_getElem (xo h) λt h1 h2=> ?_
 have e:=e t
 rw [cg,cg,cZ (et h2 h),cZ h2] at e
 exact aa List.getElem_take (UInt8.toNat_inj.mp e)
theorem aft{ar:List Nat}{n:Nat}(h:w∈(fj p ar).take n):w<p/\w∉ar:=by
 have h:=pg h
 refine ⟨(Mk p ar).2.1 w h,λq=> ?_⟩;obtain ⟨x,_,e⟩:=oE.mp h
 by_cases hx:x∈ar
 ·rw [if_pos hx] at e;exact nn e
 ·rw [if_neg hx] at e;exact hx (aM e▸q)
theorem afu{hd ps:List (List UInt8)}{xN:List (List UInt8)}(hl:hd.length=ps.length)(hn:bH.Nodup)(hs:xN.length=bH.length)(hp:∀q∈bH,q<ps.length)(afv:∀i,i<bH.length->xN[i]? =some (ps.getD (bH.getD i 99) []))
  (fF:∀q,q<ps.length->q∉bH->hd.getD q []=ps.getD q []):putAll hd (aA bH xN)=ps:=by
 have hk:(aA bH xN).map (λz=>z.1)=bH:=JP (bS hs.symm)
 have g:=afk (l:=aA bH xN) (ps:=hd) (hk.symm▸hn) λx hx=>hl▸hp _ (iz hx).1
 apply wP
 intro q
 by_cases hq:q∈bH
 ·obtain ⟨i,hi⟩:=p7.mp hq
  have iY:=(dr.mp hi).1
  have e:bH.getD i 99=q:=by rewrite [i9];refine aa hi ?_;rfl
  have hs:=afv i iY
  rw [e] at hs
  rw [g.1 (q,ps.getD q []) (cr (sC.mpr ⟨hi,hs⟩)),bE (hp q hq),cZ (hp q hq)]
 ·refine aa (g.2 q (hk.symm▸hq)) ?_;rcases MH q ps.length with h | h
  ·have e:=fF q h hq
   rw [cZ (hl▸h),cZ h] at e
   rw [bE (hl▸h),bE h,e]
  ·rw [ir (hl▸h),ir h]
theorem solve{held gt:List (List UInt8)}{ar:List Nat}(hn:held.length≤6)(hp:p≤3)(nu:1≤p)(fi:gt.length+p=held.length)(hl:ar.length≤10)(d4:ar.Nodup)(aR:∀q,q<gt.length->(held.getD (p+q) []).length=(gt.getD q []).length)
  (Ab:∀q,q<gt.length->p+q∉ar->held.getD (p+q) []=gt.getD q []) (afw:∀w,w<p->w∉ar->held.getD w []=iu gt w) (hB:xM held.length p (bz ar)=true):oU held p ar=gt:=by
 have hD:=NX hl hB
 have hm:held.length - p=gt.length:=Nat.sub_eq_of_eq_add fi.symm
 have A7:=hD.2
 have D:=hD.1
 rw [hm] at A7
 have NZ:gt.length≤5:=o5 (et (yK nu) (fi▸hn))
 have oH:∀q,q∈cL p (bz ar)↔p+q∈ar:=λq=>afn.trans oY
 have ja:(held.drop p).length=gt.length:=f0.trans hm
 have N0:∀q,(held.drop p).getD q []=held.getD (p+q) []:=λq=>by rw [i9,List.getElem?_drop];rfl
 have fF:∀q,q<gt.length->q∉cL p (bz ar)->(held.drop p).getD q []=gt.getD q []:=λq h h'=>(N0 q).trans (Ab q h λe=>h' ((oH q).mpr e))
 have N1:∀q∈cL p (bz ar),q<gt.length:=λq hq=>ao hm (D.pl q hq)
 have afx:((fj p ar).take (cL p (bz ar)).length).length=(cL p (bz ar)).length:=xo D.rk
 have md:=D.sq
 refine (?_:putAll (held.drop p) (aA (cL p (bz ar)) (sh (held.drop p) (cL p (bz ar)) (((fj p ar).take (cL p (bz ar)).length).map λw=>kH (held.drop p) (cL p (bz ar)) w (held.getD w [])) (nx held.length p ar)))=gt)
 have gp:=λw=>aft (p:=p) (ar:=ar) (n:=(cL p (bz ar)).length) (w:=w)
 have gW:=afo (p:=p) (NM d4)
 generalize cL p (bz ar)=bH at *
 generalize (fj p ar).take bH.length=cx at *
 generalize nx held.length p ar=inv at *
 generalize held.drop p=hd at *
 have afy:∀w∈cx,kH hd bH w (held.getD w [])=kH hd bH w (iu gt w):=λw hw=>aa (afw w (gp w hw).1 (gp w hw).2) rfl
 refine aa (fV afy) (afu ja gW (by rewrite [sh];exact aa (aC ..) (aa rT (aa md.1 (aa (rA ..) rfl)))) N1 (λi hi=> ?_) fF)
 have FQ:i<rO inv:=ao md.1.symm hi
 have FP:bH.getD i 99∈bH:=by refine aa (cZ hi) ?_;exact mu hi
 have FR:=N1 _ FP
 have hz:(aA bH inv)[i]? =some (bH.getD i 99,inv.getD i []):=sC.mpr ⟨by refine aa (cZ hi) ?_;exact bE hi,by refine aa (cZ FQ) ?_;exact bE FQ⟩
 rw [sh,cW,hz];refine congrArg some (?_:(qo [] (aA (inv.getD i []) (cx.map λw=>kH hd bH w (iu gt w)))).take (hd.getD (bH.getD i 99) []).length=_);refine aa (N0 ..) (aa (aR _ FR) ?_);refine afs ?_ λt=>afq (g:=λq=>cg (gt.getD q []) t) A7 NZ (λw hw=>et (gp w hw).1 hp) (λq=>A5 _ _) hi FR λw hw=>afr ja NZ (et (gp w hw).1 hp) fF
 have hz:0<(aA (inv.getD i []) (cx.map λw=>kH hd bH w (iu gt w))).length:=by
  refine aa rT (aa (aC ..) (aa afx (aa (cZ FQ) (aa ((md.2 _ (mu _)).1) (aa (rA ..) ?_)))));exact eB (da i) hi
 have hx:=mu hz
 generalize (aA (inv.getD i []) (cx.map λw=>kH hd bH w (iu gt w)))[0]=x at hx
 obtain ⟨w,hw,ew⟩:=bF.mp (iz hx).2;refine ag ?_ ((afh []).2 x hx);exact ao ew (ag ((afj []).2 _ (by refine aa (cZ FR) ?_;exact mu _)) (afi _))
end
noncomputable def N2(w p s m:Nat)(af:List bG):Bool :=
 decide (p+1≤af.length)&&decide (af.length≤w)&&(af.all λc=>decide (c.1<w)&&decide (c.2.1+c.2.2.1≤60 / w+4)&&decide (1≤c.2.2.1)&&decide (c.2.2.1≤7)&&decide (c.2.2.2≤7)) &&
 decide (af.map (λz=>z.1)).Nodup&&(decide (xy s m w p (gS s p)=af.map bP))&&decide (mF m w p≤1000)&&(!gS s p || decide (2≤mF m w p)) &&
 (decide ((m+p*((m+w - p - 1) / (w - p))+p) / (p+1)*(p+1)=(nF af+p) / (p+1)*(p+1)))&&decide (nF af≤100) &&
 ((af.take p).all λc=>decide (c.2.2.2<0)&&decide (c.2.2.1=((af.drop p).map λc=>c.2.2.1).foldr max 0))&&decide (((af.drop p).map λc=>c.2.2.2)=(aK (af.length - p)).map λi=>((((af.drop p).take i).map λc=>c.2.2.1).sum:Int))&&decide (((af.drop p).map λc=>c.2.2.1).sum=m)
noncomputable def afz(w p s m:Nat):Bool:=N2 w p s m (if gS s p&&decide (1<(gT s w p 0 (jE m w p) 0).length) then EC (gT s w p 0 (jE m w p) 0) else gT s w p 0 (jE m w p) 0)
theorem afA:∀w∈gZ 2 5,∀p∈gZ 1 3,p<w->∀m∈gZ 1 7,∀s∈aK 20,afz w p s m=true:=by decide +kernel
structure FS(w p s m:Nat)(af:List bG):Prop where
 big:p+1≤af.length
 few:af.length≤w
 each:∀c∈af,c.1<w/\c.2.1+c.2.2.1≤60 / w+4/\1≤c.2.2.1/\c.2.2.1≤7/\c.2.2.2≤7
 nd:(af.map (λz=>z.1)).Nodup
 AY:xy s m w p (gS s p)=af.map bP
 pn:mF m w p≤1000
 pt:gS s p=true->2≤mF m w p
 AZ:(m+p*((m+w - p - 1) / (w - p))+p) / (p+1)*(p+1)=(nF af+p) / (p+1)*(p+1)
 sum:nF af≤100
 par:∀c∈af.take p,c.2.2.2<0/\c.2.2.1=((af.drop p).map λc=>c.2.2.1).foldr max 0
 first:((af.drop p).map λc=>c.2.2.2)=(aK (af.length - p)).map λi=>((((af.drop p).take i).map λc=>c.2.2.1).sum:Int)
 tot:((af.drop p).map λc=>c.2.2.1).sum=m
theorem gu{a b:Bool}{C:Prop}(h:(a&&b)=true)(k:a=true->b=true->C):C:=k (bR.mp h).1 (bR.mp h).2
theorem FS.of{s:Nat}(h:N2 w p s m af=true):FS w p s m af :=
 gu h λh afB=>gu h λh afC=>gu h λh afD=>gu h λh a9=>gu h λh a8=>gu h λh a7=>gu h λh a6=>gu h λh a5=>gu h λh a4=>gu h λh a3=>gu h λa1 a2 =>
 ⟨of_decide_eq_true a1,of_decide_eq_true a2,λc hc=>gu (fx.mp a3 c hc) λh b5=>gu h λh b4=>gu h λh b3=>gu h λb1 b2=>⟨of_decide_eq_true b1,of_decide_eq_true b2,of_decide_eq_true b3,of_decide_eq_true b4,of_decide_eq_true b5⟩,
  of_decide_eq_true a4,of_decide_eq_true a5,of_decide_eq_true a6,λht=>of_decide_eq_true (by rw [ht] at a7;exact a7),of_decide_eq_true a8,of_decide_eq_true a9,λc hc=>gu (fx.mp afD c hc) λb1 b2=>⟨of_decide_eq_true b1,of_decide_eq_true b2⟩,of_decide_eq_true afC,of_decide_eq_true afB⟩
theorem mH{s size:Nat}(g:iC w p s size):FS w p s ((size+3) / 4) (aW s size w p) :=
 .of (afA w (qH.mpr ⟨g.w2,uV g.w6⟩) p (qH.mpr ⟨g.p1,uV g.p3⟩) g.pw ((size+3) / 4) (qH.mpr ⟨show (1+3) / 4≤(size+3) / 4 from Al (gz g.z1 3),eB (show (size+3) / 4≤(28+3) / 4 from Al (gz g.sF 3)) (by decide)⟩) s (fU.mpr g.aeq))
noncomputable def pl(ak:List UInt8):Nat->List Nat->List (List UInt8)
 | _,[]=> []
 | f,m::ms=>lD ak (f*4) (m*4)::pl ak (f+m) ms
theorem afE{f:Nat}{ms:List Nat}:pl ak f (m::ms)=lD ak (f*4) (m*4)::pl ak (f+m) ms:=rfl
theorem afF(ak:List UInt8):∀(ms:List Nat) (f:Nat),(pl ak f ms).length=ms.length:=by
 intro ms
 induction ms with
 | nil=>exact λJ=>rfl
 | cons m ms ih=>exact λf=>congrArg D4 (ih (f+m))
theorem FT(ak:List UInt8):∀(ms:List Nat) (f:Nat),(pl ak f ms).map (λz=>z.length)=ms.map (λz=>z *4):=by
 intro ms
 induction ms with
 | nil=>exact λJ=>rfl
 | cons m ms ih=>exact λf=>congr (congrArg ug (Aq ..)) (ih (f+m))
theorem N3{f:Nat}:lD ak (f*4) (m*4)=(ak.drop (f*4)).take (m*4)++cf (m*4 - ((ak.drop (f*4)).take (m*4)).length) 0:=by
 unfold lD;exact aa tV (aa (nk ..) rfl)
theorem afG{ms:List Nat}:∀{f n:Nat},n≤ms.sum*4->n≤(ak.drop (f*4)).length->(pl ak f ms).flatten.take n=(ak.drop (f*4)).take n:=by
 induction ms with
 | nil=>intro f n h _;rw [UM.mp (ag h (bS (afH 4))),EQ,EQ]
 | cons m ms ih =>
  intro f n h h2
  show (lD ak (f*4) (m*4)++(pl ak (f+m) ms).flatten).take n=_
  rcases wB n (m*4) with q | q
  ·rw [MI (ag q (bS (Aq ..).symm)),N3,MI (by rw [iX];exact zE.mpr ⟨q,h2⟩),AA,gO q]
  ·obtain ⟨k,rfl⟩:=Az q
   have hm:m*4 - ((ak.drop (f*4)).take (m*4)).length=0:=XR (by rw [iX];exact zE.mpr ⟨cb _,ag q h2⟩)
   have ed:ak.drop ((f+m)*4)=(ak.drop (f*4)).drop (m*4):=by rw [MF,N4]
   have i2:=ih (f:=f+m) (n:=k) (Nat.le_of_add_le_add_left (a:=m*4) (ag h (bS (N4 m ms.sum 4)))) (by rw [ed,f0];exact MG h2)
   rw [EL (Aq ak (f*4) (m*4)),i2,N3,hm,ed,List.take_add,List.replicate_zero,iU]
theorem afI(ak:List UInt8):∀(ds:List bG) (f:Nat),(ds.map λc=>c.2.2.2)=(aK ds.length).map (λi=>((f+((ds.take i).map λc=>c.2.2.1).sum:Nat):Int))->ds.map (λc=>lD ak (c.2.2.2.toNat*4) (c.2.2.1*4))=pl ak f (ds.map λc=>c.2.2.1):=by
 intro ds
 induction ds with
 | nil=>exact λJ J=>rfl
 | cons c ds ih =>
  intro f h;rw [nS,BH,eN,eN,dj] at h
  injection h with h1 h2
  have h1:c.2.2.2=(f:Int):=by simpa using h1
  refine aH eN eN (aH afE h1 (aa (mf ..) ?_))
  congr 1
  refine ih (f+c.2.2.1) (h2.trans (fV λi J=> ?_));refine (?_:((f+(((c::ds).take (i+1)).map λc=>c.2.2.1).sum:Nat):Int)=_);exact aa Ie (aa eN (aH rR (j9 ..) rfl))
theorem afJ{A:List (List UInt8)}:∀{B:List (List UInt8)} {n i:Nat},A.map (λz=>z.length)=B.map (λz=>z.length)->A.flatten.take n=B.flatten.take n->((A.take i).map (λz=>z.length)).sum<n->0<(A.getD i []).length->(A.getD i []).getD 0 0=(B.getD i []).getD 0 0:=by
 induction A with
 | nil=>exact λJ J J h=>absurd h (iL 0)
 | cons a A ih =>
  intro B n i h e hn hp;rcases B with _ | ⟨b,B⟩
  ·cases h
  obtain ⟨h1,h2⟩:=tO h
  have h1:a.length=b.length:=h1
  rw [M2,M2] at e
  rcases i with _ | i
  ·have hp:0<a.length:=hp
   have e:=congrArg (λz=>z.getD 0 0) e
   rcases n with _ | n
   ·exact absurd hn (iL 0)
   rcases a with _ | ⟨x,a⟩
   ·exact absurd hp (iL 0)
   rcases b with _ | ⟨y,b⟩
   ·exact p8 h1
   exact e
  ·have hn:(a.length::(A.take i).map (λz=>z.length)).sum<n:=hn
   rw [rR] at hn
   refine ih (n:=n - a.length) (i:=i) h2 ?_ (Nat.lt_sub_of_add_lt (ao (lg a.length _) hn)) hp
   have e:=congrArg (λz=>z.drop a.length) e
   rw [tV,tV,List.drop_left,List.drop_left' h1.symm] at e
   exact e
theorem afK(w:Nat)(ps:List (List UInt8)):∀z:List UInt8,(ps.foldl (λf p=>d6 (j3 w f) p) z).length=max z.length ((ps.map (λz=>z.length)).foldr max 0):=by
 induction ps with
 | nil=>intro z;exact (Lz (da _)).symm
 | cons p ps ih=>intro z;exact aa mq (aa (ih ..) (aa (lr ..) (aa (zU ..) (aa eN (aa N5 (aa (Nat.max_assoc ..) rfl))))))
theorem afL(ms:List Nat):(ms.map (λz=>z *4)).foldr max 0=ms.foldr max 0*4:=by
 induction ms with
 | nil=>rfl
 | cons m ms ih=>exact aa eN (aa N5 (aa N5 (aa ih (aa (Nat.mul_max_mul_right ..) rfl))))
theorem N6(ds:List bG)(i:Nat):((ds.take i).map λc=>(c.2.2.1:Int)).sum=(((ds.take i).map λc=>c.2.2.1).sum:Nat):=by
 have:=NK ((ds.take i).map λc=>c.2.2.1)
 rw [dj] at this
 exact this
section
variable{w p s size:Nat}(g:iC w p s size){ak:List UInt8}
include g
theorem A8:eP ak (aW s size w p)=pl ak 0 (((aW s size w p).drop p).map λc=>c.2.2.1):=by
 have F:=mH g
 generalize aW s size w p=af at F
 have e1:eP ak (af.take p++af.drop p)=eP ak (af.take p)++eP ak (af.drop p):=Lk ..
 rw [ER] at e1
 have e2:eP ak (af.take p)= []:=E6.mpr λc hc=>if_pos (F.par c hc).1
 have e3:eP ak (af.drop p)=(af.drop p).map λc=>lD ak (c.2.2.2.toNat*4) (c.2.2.1*4):=by
  unfold eP;refine ao List.filterMap_eq_map' (Jo λc hc=>if_neg ?_)
  have hm:c.2.2.2∈(af.drop p).map λc=>c.2.2.2:=nj hc
  rw [F.first] at hm
  obtain ⟨i,_,e⟩:=bF.mp hm;rw [N6] at e
  exact ao e (jU.mpr (eh _))
 refine aa e1 (aa e2 (aa (CW ..) (aa e3 ?_)));exact afI ak _ 0 (aH F.first f0 (fV λi J=>aH (N6 ..) (m4 ..) rfl))
theorem FU:(eP ak (aW s size w p)).length=(aW s size w p).length - p:=aa (A8 g) (aa (afF ..) (aa (aC ..) (aa f0 rfl)))
theorem N7:(aF ak (aW s size w p) p).length=(aW s size w p).length:=by
 have F:=mH g
 have:=F.big
 rewrite [aF];refine aa de ?_;rewrite [lx];refine aa (aC ..) (aa fh (aa (FU g) ?_));exact lM (ig this)
theorem N8:(aF ak (aW s size w p) p).map (λz=>z.length)=(aW s size w p).map λc=>c.2.2.1*4:=by
 have F:=mH g
 rewrite [aF];refine aa gR (aa (A8 g) (aa (FT ..) ?_))
 have hp:((lx (pl ak 0 (((aW s size w p).drop p).map λc=>c.2.2.1)) p)).map (λz=>z.length)=((aW s size w p).take p).map λc=>c.2.2.1*4:=by
  unfold lx;refine aa dj ?_
  have e:((aW s size w p).take p).map (λc=>c.2.2.1*4)=((aW s size w p).take p).map λJ=>(((aW s size w p).drop p).map λc=>c.2.2.1).foldr max 0*4:=fV λc hc=>aa ((F.par c hc).2) rfl
  refine aa e (aa DW (aa iX (aa (gO (by have:=F.big;exact ig this)) ?_)))
  have e2:(aK p).map ((λz=>z.length) ∘ iu (pl ak 0 (((aW s size w p).drop p).map λc=>c.2.2.1)))=(aK p).map λJ=>(((aW s size w p).drop p).map λc=>c.2.2.1).foldr max 0*4:=fV λv J=>by
   refine (?_:(iu _ v).length=_);rewrite [iu];refine aa (afK ..) (aa (FT ..) (aa (afL ..) ?_));simp
  exact aa e2 (aa DW (aa fh rfl))
 exact aa hp (aa dj (aa (show ((λx=>x*4) ∘ λc:bG=>c.2.2.1)=λc:bG=>c.2.2.1*4 from rfl) (ao gR (aa (ER ..) rfl))))
theorem N9(ht:ak.length=size):(eP ak (aW s size w p)).flatten.take size=ak:=by
 have F:=mH g
 have h1:=g.z1
 exact aa (A8 g) (aa (afG (f:=0) (n:=size) (by rw [F.tot];exact OW size) (by show size≤ak.length;exact bS ht.symm)) (aa (afH ..) (aa yL (aa (q8 (bS ht)) rfl))))
end
section
variable {I bad cP:List Nat}
theorem find_key(h:(af.map (λz=>z.1)).Nodup){c:bG}(hc:c∈af):af.find? (λd=>d.1==c.1)=some c:=by
 induction af with
 | nil=>cases hc
 | cons d af ih =>
  rw [eN,fW] at h
  rcases bq.mp hc with rfl | hc
  ·rw [JN (by simp)]
  ·rw [JO (λe=>h.1 (aa (show d.1=c.1 by simpa using e) (nj hc)))];exact ih h.2 hc
theorem afM(w:Nat)(af:List bG):(je w af).length=w:=by rewrite [je];exact aa (aC ..) (aa fh rfl)
theorem N'(hk:k<w):(je w af).getD k (0,0)=match af.find? λc=>c.1==k with
  | some c=>(c.2.1,c.2.2.1)
  | none=>(0,0):=by
 unfold je;refine aa (cZ (by rw [aC,fh];exact hk)) (aa (afN ..) (aa (LU ..) ?_))
 try (generalize af.find? (λc=>c.1==k)=o;cases o<;>rfl)
theorem Oa{n:Nat}(tG:2≤n)(FV:n≤6)(nu:1≤p)(dB:p≤3)(gW:p<n)(hs:cP.Sublist (aK n)) :
  gk n cP p 100 (jD cP p) 0=some (kL n cP p)/\(kL n cP p).length≤1000/\(∀ar∈kL n cP p,ar.length≤p/\ar.Nodup/\∀x∈ar,x<n)/\
   ∀E:List Nat,cP.length+E.length≤p->E.Sublist ((aK n).filter λx=> !cP.contains x)->cP++E∈kL n cP p:=by
 by_cases q:cP.length≤p
 ·have h:=ae0 n (Gi tG FV) p (Gj nu dB) gW cP (FG hs q)
  unfold NO at h
  have ei:jD cP p= [cP]:=if_pos q
  unfold kL;refine aa ei ?_;rcases hr:gk n cP p 100 [cP] 0 with _ | r
  ·rw [hr] at h;exact ff h
  rw [hr] at h
  exact gu h λh h3=>gu h λh1 h2=>⟨rfl,of_decide_eq_true h1,λar hl=>gu (fx.mp h2 ar hl) λh c=>gu h λa b=>⟨of_decide_eq_true a,of_decide_eq_true b,λx hx=>of_decide_eq_true (fx.mp c x hx)⟩,
   λE hE rD=>sJ.mp (fx.mp h3 E (FG rD (MG hE)))⟩
 ·have ei:jD cP p= []:=if_neg q
  have e:gk n cP p 100 (jD cP p) 0=some []:=aa ei rfl
  have e2:kL n cP p= []:=by unfold kL;refine aa e ?_;rfl
  exact aH e e2 (⟨rfl,da _,λJ h=>absurd h dJ,λE hE=>absurd (ag (b6 ..) hE) q⟩)
theorem Ob{n:Nat}(tG:2≤n)(FV:n≤6)(nu:1≤p)(dB:p≤3)(gW:p<n){ar:List Nat}(hl:ar.length≤p)(d4:ar.Nodup)(hx:∀x∈ar,x<n):xM n p (bz ar)=true:=by
 refine ae1 n (Gi tG FV) p (Gj nu dB) gW (bz ar) (FG ?_ (aa (xt ..) hl));exact aa Jm (aeY (k:=n) (a:=0) (NM d4) λx h=>⟨da _,aa (m4 ..) (hx x (oY.mp h))⟩)
noncomputable def kO(af:List bG)(i:Nat):Nat:=(af.getD i (0,0,0,0)).1
noncomputable def qB(af:List bG)(bad:List Nat):List Nat:=(aK af.length).filter λi=>decide (kO af i∈bad)
theorem A9{i:Nat}:i∈qB af bad↔i<af.length/\kO af i∈bad:=by
 rw [qB,Bq,fU,decide_eq_true_iff]
theorem Oc:(qB af bad).Nodup:=Df.filter _
theorem Od{i:Nat}(h:i<af.length):(af.map (λz=>z.1))[i]? =some (kO af i):=by
 rw [cW,bE h,kO,cZ h];rfl
theorem afO(nd:(af.map (λz=>z.1)).Nodup):(qB af bad).length≤bad.length:=by
 have h:((qB af bad).map (kO af)).Nodup:=by
  rw [List.Nodup,we];exact air (λ{a b} ha hb bt e=>bt (An nd (Od (A9.mp ha).1) (e▸Od (A9.mp hb).1))) Oc
 exact ag (bS (aC _).symm) (AQ h λa ha=>(bF.mp ha).elim λi h=>ao h.2 ((A9.mp h.1).2))
theorem Oe{i:Nat}(h:i<af.length):(bp Ls af)[i]? =some (dX (Ls.getD (kO af i) ax)):=by
 rw [bp,cW,bE h,kO,cZ h];rfl
theorem Og{L:Lf}(h:L.out=false):dX L=some L.cont:=by rewrite [dX];refine aa h ?_;rfl
theorem afP(hr:∀i,i<af.length->i∉I->(Ls.getD (kO af i) ax).out=false){i:Nat}(hi:i∈gV (bp Ls af))(ip:i<af.length):i∈I:=by
 by_cases q:i∈I
 ·exact q
 obtain ⟨x,hx,e⟩:=oE.mp hi;obtain ⟨k,hk⟩:=p7.mp hx;obtain ⟨e1,e2⟩:=zipIdx_get hk
 split at e
 ·exact nn e
 ·next f6 =>
  obtain rfl:=aM e;rw [<-e1,Oe ip,Og (hr _ ip q)] at e2
  rw [<-aM e2] at f6
  exact absurd rfl f6
noncomputable def xO(I cP:List Nat):List Nat:=I.filter λi=> !cP.contains i
theorem Oh{i:Nat}:i∈xO I cP↔i∈I/\i∉cP:=by rw [xO,Bq];simp
theorem Oi(h:∀i∈cP,i∈I){i:Nat}:i∈cP++xO I cP↔i∈I:=by
 rw [jg,Oh];refine ⟨λq=>q.elim (h i) And.left,λq=> ?_⟩
 by_cases z:i∈cP
 ·exact .inl z
 ·exact .inr ⟨q,z⟩
theorem afQ(hI:I.Nodup)(hg:cP.Nodup)(h:∀i∈cP,i∈I):cP.length+(xO I cP).length≤I.length:=by
 exact ao de (AQ (L5.mpr ⟨hg,hI.filter _,λa ha b hb e=>(Oh.mp hb).2 (ao e ha)⟩) λa ha=>(Oi h).mp ha)
theorem Oj{i:Nat}(hi:i<af.length):(f8 af (bp Ls af)).getD i []=(dX (Ls.getD (kO af i) ax)).getD (cf ((af.getD i (0,0,0,0)).2.2.1*4) 0):=by
 have hz:(aA af (bp Ls af))[i]? =some (af.getD i (0,0,0,0),dX (Ls.getD (kO af i) ax)):=sC.mpr ⟨by rw [bE hi,cZ hi],Oe hi⟩
 rw [f8,i9,cW,hz];rfl
theorem FW:(f8 af (bp Ls af)).length=af.length:=by rewrite [f8];exact aa (aC ..) (aa rT (aa sy (aa (rA ..) rfl)))
theorem afR{L:Lf}(h:L.cont.length=4*k):((dX L).getD (cf (k*4) 0)).length=k*4:=by
 unfold dX;rcases L.out with _ | _
 ·exact h.trans (uT ..)
 ·exact pP
theorem Ok{q:Nat}:(aF ak af p).getD (p+q) []=(eP ak af).getD q []:=by
 have e:(lx (eP ak af) p).length=p:=by rewrite [lx];exact aa (aC ..) (aa fh rfl)
 rw [aF,i9,pO (ag (bS e) (b6 p q)),e,nk];rfl
theorem afS{v:Nat}(hv:v<p):(aF ak af p).getD v []=iu (eP ak af) v:=by
 rw [aF,i9,m8 (by rewrite [lx];refine aa (aC ..) (aa fh ?_);exact hv),lx,cW,zd hv];rfl
section
variable{w p s size:Nat}(g:iC w p s size){ls:List Addr}(hl:ls.length=w){ak:List UInt8}
include g hl
theorem afT:ny (60 / w+8) (je w (aW s size w p)) ls p s size (aW s size w p):=by
 have F:=mH g
 have h1:=g.w2
 have h2:=g.w6
 have h3:=g.p3
 have h4:=g.sF
 have h5:=F.big
 have h6:=F.few
 have hq:60 / w≤60:=om _ _
 refine ⟨⟨by generalize 60 / w=q at hq ⊢;exact ag (gz hq 8) (nb rfl),by generalize 60 / w=q at hq ⊢;exact ag (nb rfl) (lm 8 _),aa (afM ..) (aa hl rfl),λk hk=> ?_,hl▸ag h2 (nb rfl)⟩,g.p1,g.p3,aa hl g.pw,ag h4 (nb rfl),aa hl rfl,ag h6 (ag h2 (nb rfl)),ig h5,by have:=g.p1;exact ag (gE ..) (ag h6 h2),λc hc=>⟨aa hl ((F.each c hc).1), ?_⟩,λc hc=>⟨by have:=(F.each c hc).2.2.2.1;exact ag this (nb rfl),ic (F.each c hc).2.2.2.2 (by decide)⟩,λhs aR=> ?_⟩
 ·refine aa (N' (hl▸hk)) ?_;cases hf:(aW s size w p).find? λc=>c.1==k with
  | none=>exact ⟨da _,by decide⟩
  | some c =>
   have:=F.each c (WS hf)
   generalize 60 / w=q at *
   exact ⟨by dsimp only;exact ag this.2.1 (bS rfl),by dsimp only;exact ag this.2.2.2.1 (nb rfl)⟩
 ·exact aa (N' (F.each c hc).1) (aa (find_key F.nd hc) rfl)
 ·have rD:=NN hs
  rw [aR] at rD
  obtain ⟨a,b,c,_⟩:=Oa (by have:=g.p1;exact ag (fO this) h5) (ag h6 h2) g.p1 g.p3 (h5) rD;refine ⟨a,b,λar fZ=> ?_⟩;obtain ⟨c1,c2,c3⟩:=c ar fZ;exact (NX (ag c1 (ag h3 (nb rfl))) (Ob (by have:=g.p1;exact ag (fO this) h5) (ag h6 h2) g.p1 g.p3 (h5) c1 c2 c3)).1
theorem afU(ht:ak.length=size)(Ls:List Lf)(bad:List Nat)(hc:∀c∈aW s size w p,(Ls.getD c.1 ax).cont.length=4*c.2.2.1)(hb:bad.length≤p)
  (h:∀x∈aA (aW s size w p) (aF ak (aW s size w p) p),ck x∉bad->(Ls.getD (ck x) ax).out=false/\(Ls.getD (ck x) ax).cont=x.2):Acc (aW s size w p) p size ak (bp Ls (aW s size w p)):=by
 have F:=mH g
 have jc:=N7 g (ak:=ak)
 have fi:=FU g (ak:=ak)
 have FX:=N8 g (ak:=ak)
 have iZ:=N9 g ht
 generalize aW s size w p=af at *
 have tQ:af.length≤6:=ag F.few g.w6
 have gW:p<af.length:=F.big
 have Ol:(eP ak af).length+p=af.length:=aa fi (vQ (bO gW))
 have hr:∀i,i<af.length->i∉qB af bad->(Ls.getD (kO af i) ax).out=false/\(Ls.getD (kO af i) ax).cont=(aF ak af p).getD i []:=λi hi hI=>by
  have hz:(aA af (aF ak af p))[i]? =some (af.getD i (0,0,0,0),(aF ak af p).getD i []):=sC.mpr ⟨by rw [bE hi,cZ hi],by rw [bE (ao jc.symm hi)];exact congrArg some (cZ (jc.symm▸hi)).symm⟩
  exact h _ (cr hz) λhb=>hI (A9.mpr ⟨hi,hb⟩)
 have Ba:=NN (bp Ls af)
 rw [sy] at Ba
 have Om:∀i∈gV (bp Ls af),i∈qB af bad:=λi hi=>afP (λi a b=>(hr i a b).1) hi (fU.mp (Ba.subset hi))
 have afV:=λi=>Oi (i:=i) Om
 have aR:=ag (afQ Oc (Ba.nodup Df) Om) (ag (afO F.nd) hb)
 have H:=Oa (n:=af.length) (ag (fO g.p1) gW) tQ g.p1 g.p3 gW Ba
 have tM:=H.2.2.2 _ aR (List.filter_sublist.filter _)
 have hv:=H.2.2.1 _ tM
 refine ⟨_,tM, ?_⟩
 have On:∀i,i<af.length->i∉gV (bp Ls af)++xO (qB af bad) (gV (bp Ls af))->(f8 af (bp Ls af)).getD i []=(aF ak af p).getD i []:=λi hi hn=>by
  have r:=hr i hi λq=>hn ((afV i).mpr q)
  refine aa (Oj hi) (aa (Og r.1) ?_);exact r.2
 have afW:∀i,i<af.length->((f8 af (bp Ls af)).getD i []).length=((aF ak af p).getD i []).length:=λi hi=>by
  have e:=congrArg (λz=>z[i]?) FX
  have hw:=jc.symm▸hi
  rw [cW,cW,bE hw,bE hi] at e
  refine aa (Oj hi) (aa (cZ hw) (aa (afR (L:=Ls.getD (kO af i) ax) (k:=(af.getD i (0,0,0,0)).2.2.1) (hc (af.getD i (0,0,0,0)) (by rw [cZ hi];exact mu hi))) (aa (cZ hi) ?_)));exact (aM e).symm
 have hq:∀{q},q<(eP ak af).length->p+q<af.length:=λh=>Ol▸ao (lg p _) (wK h p)
 refine (?_:(oU (f8 af (bp Ls af)) p _).flatten.take size=ak);refine aa (solve (held:=f8 af (bp Ls af)) (gt:=eP ak af) (ao FW.symm tQ) g.p3 g.p1 (Ol.trans FW.symm) (ag hv.1 (ag g.p3 (nb rfl))) hv.2.1 (λq h=>by rw [afW _ (hq h),Ok]) (λq h hn=>by rw [On _ (hq h) hn,Ok]) (λv h hn=>by rw [On _ (FM h gW) hn,afS h])
  (by rw [FW];exact Ob (ag (fO g.p1) gW) tQ g.p1 g.p3 gW hv.1 hv.2.1 hv.2.2)) ?_
 exact iZ
end
end
theorem afX(Ls:List Lf)(ds:List bG):∀(aV:List (List UInt8)),ds.length=aV.length->(∀x∈aA ds aV,(Ls.getD (ck x) ax).out=false/\(Ls.getD (ck x) ax).cont=x.2)->bp Ls ds=aV.map some:=by
 induction ds with
 | nil=>exact λaV h _=>aa (y6.mp h.symm) rfl
 | cons c ds ih =>
  intro aV h hx;rcases aV with _ | ⟨q,aV⟩
  ·exact p8 h
  refine dP (hx (c,q) (.head _)) λh1 h2=> ?_;refine (?_:dX (Ls.getD c.1 ax)::bp Ls ds=_);refine aa (ih aV (qU h) λx on=>hx x (.tail _ on)) ?_;unfold dX;refine aa (show (Ls.getD c.1 ax).out=false from h1) (aa (if_neg (by decide)) (aa (show (Ls.getD c.1 ax).cont=q from h2) rfl))
theorem afY(l:List (List UInt8)):nz (l.map some)=l:=l.rec rfl λJ J e=>congrArg _ e
theorem afZ(l:List (List UInt8)):(l.map some).any (λz=>z.isNone)=false:=by
 rw [Dw];intro x hx;refine aB (bF.mp hx) λy J bL=> ?_;subst bL
 simp
theorem af0(Ls:List Lf)(ds:List bG):(bp Ls ds).any (λz=>z.isNone)=false->nz (bp Ls ds)=ds.map λc=>(Ls.getD c.1 ax).cont:=by
 induction ds with
 | nil=>exact λJ=>rfl
 | cons c ds ih =>
  intro h;rw [show bp Ls (c::ds)=dX (Ls.getD c.1 ax)::bp Ls ds from rfl,List.any_cons,vx] at h
  refine (?_:(dX (Ls.getD c.1 ax)).getD []::nz (bp Ls ds)=_);refine aa (ih h.2) ?_;unfold dX at h ⊢
  cases q:(Ls.getD c.1 ax).out with
  | true=>rw [q] at h;simp at h
  | false=>exact aa (if_neg (by decide)) rfl
theorem af1(l:List Nat):∀(i:Nat) (h:i<l.length),(l.take i).sum+l[i]≤l.sum:=by
 induction l with
 | nil=>exact λi h=>absurd h (EH i)
 | cons x l ih =>
  intro i h;rcases i with _ | i
  ·simp
  simp only [Ie,rR,List.getElem_cons_succ];exact ag (bS (j9 ..)) (lL (ih i (Nat.lt_of_succ_lt_succ h)) _)
theorem af2(h:0<b.length):(gX b).getD 0 0≠b.getD 0 0:=by
 cases b with
 | nil=>simp at h
 | cons x b =>
  have:∀x:Fin 256,(255 - kF x.1)≠kF x.1:=by decide +kernel
  have h2:=this ⟨x.toNat,qi x⟩
  simp only [adH] at h2
  exact h2
theorem zip_get{a:List α}{b:List β}{x:α×β}(h:x∈aA a b):∃i:Nat,a[i]? =some x.1/\b[i]? =some x.2:=by
 obtain ⟨i,hi⟩:=p7.mp h;exact ⟨i,sC.mp hi⟩
section
variable{w p s size:Nat}(g:iC w p s size){ls:List Addr}(hl:ls.length=w){ak:List UInt8}
include g hl
theorem af3(ht:ak.length=size):c6 (60 / w+8) (je w (aW s size w p)) ls p s size (aW s size w p) ak:=by
 have B:=afT g hl
 have F:=mH g
 have ais:=g.z1
 have jc:=N7 g (ak:=ak)
 have fi:=FU g (ak:=ak)
 have FX:=N8 g (ak:=ak)
 have iZ:=N9 g ht
 have FY:=FT ak (((aW s size w p).drop p).map λc=>c.2.2.1) 0
 rw [<-A8 g,dj] at FY
 have af4:∀x∈aA (aW s size w p) (aF ak (aW s size w p) p),x.2.length=4*x.1.2.2.1:=λx hx=>by
  refine aB (zip_get hx) λi h1 h2=> ?_
  have:=congrArg (λz=>z[i]?) FX
  rw [cW,cW,h1,h2] at this
  have e:x.2.length=x.1.2.2.1*4:=aM this
  exact e.trans (uT ..)
 have af5:(aF ak (aW s size w p) p).drop p=eP ak (aW s size w p):=by
  unfold aF;exact aa (aco (by rw [lx,aC,fh];exact cb _)) (aa (aaN (by rw [lx,aC,fh];exact cb _)) (aa (CW ..) rfl))
 have Oo:(aA (aW s size w p) (aF ak (aW s size w p) p)).drop p=aA ((aW s size w p).drop p) (eP ak (aW s size w p)):=by
  refine ao af5 ?_;rewrite [aA];exact aa adS rfl
 have ja:((aW s size w p).drop p).length=(eP ak (aW s size w p)).length:=aa fi (aa f0 rfl)
 refine ⟨B,ht,jc,λx hx=>⟨B.jI x.1 (iz hx).1,af4 x hx,by have:=(F.each x.1 (iz hx).1).2.2.2.1;exact ag this (by decide)⟩,F.nd,λc hc=>(F.each c hc).2.2.1,λLs bad hc hb h=>afU g hl ht Ls bad hc hb h,λLs h=> ?_,λLs h ft hP=> ?_⟩
 ·rw [Oo] at h
  unfold nA;refine aa (afX Ls _ _ ja h) (aa (afY ..) ?_);exact ⟨afZ _,iZ⟩
 ·rw [Oo] at h ft
  obtain ⟨hn,hf⟩:=hP;rw [af0 Ls _ hn] at hf
  refine aB (ft) λx hx af6=>aB (zip_get hx) λi xP Oq=> ?_;generalize eP ak (aW s size w p)=aV at *
  have af7:=F.tot
  have af8:=F.each
  generalize De:(aW s size w p).drop p=ds at *
  have rD:∀c∈ds,c∈aW s size w p:=λc hc=>by rw [<-De] at hc;exact nN hc
  have aR:(ds.map λc=>(Ls.getD c.1 ax).cont).map (λz=>z.length)=aV.map (λz=>z.length):=by
   refine aa dj ?_
   apply wP
   intro j;rw [cW,cW]
   by_cases q:j<ds.length
   ·have hj:(aA ds aV)[j]? =some (ds[j],aV[j]'(ao ja q)):=sC.mpr ⟨bE q,bE _⟩
    have:=h _ (cr hj)
    rw [bE q,bE (ja▸q:j<aV.length)];refine congrArg some ?_;rcases this with e | e
    ·exact congrArg rO e
    ·exact (congrArg rO e).trans (uG _)
   ·rw [ir (fA q),ir (ao ja (fA q))];rfl
  have iY:=(dr.mp xP).1
  have Os:x.2.length=4*x.1.2.2.1:=by
   have:=congrArg (λz=>z[i]?) FY
   rw [cW,cW,xP,Oq] at this
   have e:x.2.length=x.1.2.2.1*4:=aM this
   exact e.trans (uT ..)
  have xH:=(af8 x.1 (rD x.1 (cr xP))).2.2.1
  have Ot:(ds.map λc=>(Ls.getD c.1 ax).cont).getD i []=gX x.2:=by
   rw [i9,cW,xP];exact af6
  have af9:aV.getD i []=x.2:=by rewrite [i9];refine aa Oq ?_;rfl
  have:=afJ (A:=ds.map λc=>(Ls.getD c.1 ax).cont) (B:=aV) (n:=size) (i:=i) aR (hf.trans iZ.symm) ?_ (by refine aa Ot (aa (uG ..) ?_);exact Os▸Nk (by decide) xH)
  ·rw [Ot,af9] at this
   exact af2 (Os▸Nk (by decide) xH) this
  ·refine aa xe (aa aR (aa FY (ao xe ?_)))
   have ts:=af1 (ds.map λc=>c.2.2.1) i (by refine aa (aC ..) ?_;exact iY)
   rw [af7,afN,(dr.mp xP).2] at ts
   have e4:∀l:List Nat,(l.map (λz=>z *4)).sum=l.sum*4:=λl=>by
    induction l with
    | nil=>rfl
    | cons a l ih=>refine aa eN (aa rR (aa rR (aa ih ?_)));exact (N4 ..).symm
   have e5:((ds.take i).map ((λx=>x*4) ∘ λc:bG=>c.2.2.1)).sum=((ds.map λc=>c.2.2.1).take i).sum*4:=ao xe (ao (e4 ..) (aa dj rfl))
   exact aa e5 (OX xH ts)
end
theorem af':AX where
 oct:=λw p s size ls ak g hl ht=>af3 g hl ht
 AY:=λw p s size g=>let F:=mH g;⟨F.AY,F.pn,F.pt⟩
 big:=λw p s size g=>(mH g).big
 AZ:=λw p s size g=>⟨by unfold Ak;exact (mH g).AZ,(mH g).sum⟩
theorem Ov{M:Model}{Q:List (Str×Value)->al->Prop}{t:Addr}{o:Obj}{d:Array Value}{ep:Nat}(hd:fd.defaults= .ref t)(ho:s.heap.get? t=some o)(aga:o.data= .seq d ep){f:Option (Array Value)->Sem (List (Str×Value))}(h:ai M A (f (some d)) Q E s):ai M A (seqItems? fd.defaults>>=f) Q E s:=by
 exact aa hd (aE (bc (lp ho aga h)))
theorem xQ{h:Heap}{i:Int}(r:aN U h (.int i::vs) ys):∃t zs,ys= .int i t::zs/\aN U h vs zs:=by
 refine eR r.cons_inv λy zs e a b=> ?_;obtain ⟨t,rfl⟩:=a.int_inv;exact ⟨t,zs,e,b⟩
noncomputable def xR:Array Value:= #[.int 16 817, .int 32 818, .int 32 819, .int 4 820, .int 4 821, .int 4 822, .int 2 823, .int 128 824, .int 192 825, .int 160 826, .int 128 827]
noncomputable def Bb:List Str:= ["self","sector","slab","record","fan","dnodes","ring","defer","most_record","uber","config","zap"]
theorem agb{X:Cx}(h1:fd.params.posonlyargs= [])(h2:fd.params.vararg=none)(h3:fd.params.kwonlyargs= [])(h4:fd.params.kwarg=none)(hn:fd.params.args.map (λz=>z.arg)=Bb)(hd:fd.defaults= .ref 448)
  (ho:X.h₀.get? 448=some {cls:= .type "tuple",data:= .seq xR}) (v:ab):pT X fd [v, .int 4, .int 8] [("ring", .int 1),("uber", .int 4),("config", .int 4)] [v, .int 4, .int 8, .int 32, .int 4, .int 4, .int 1, .int 2, .int 128, .int 4, .int 4, .int 128]:=by
 intro A E Q σ κ s ys dE G hv hk q;obtain ⟨y,z1,rfl,v0,jq⟩:=VR.cons_inv hv;obtain ⟨t1,z2,rfl,hV⟩:=xQ jq;obtain ⟨t2,z3,rfl,CR⟩:=xQ hV;cases VR.nil_inv CR;obtain ⟨t3,z4,rfl,Aj⟩:=xQ hk;obtain ⟨t4,z5,rfl,m3⟩:=xQ Aj;obtain ⟨t5,z6,rfl,xc⟩:=xQ m3;cases VR.nil_inv xc;rw [hn] at q
 refine (?_:ai X.M A (bindArgs fd ⟨[y, .int 4 t1, .int 8 t2],[("ring", .int 1 t3),("uber", .int 4 t4),("config", .int 4 t5)]⟩) Q E s);refine Dd (names:=Bb) (r:=some xR) (ds:=xR.toList) (res:=Bb.zip [y, .int 4 t1, .int 8 t2, .int 32 819, .int 4 820, .int 4 821, .int 1 t3, .int 2 823, .int 128 824, .int 4 t4, .int 4 t5, .int 128 827]) h1 h2 h3 h4 hn (Ov hd (G.keep _ _ ho) rfl) (by kernel_rfl) (by kernel_rfl) (by kernel_rfl) (by kernel_rfl) (by kernel_rfl) (q [y, .int 4 t1, .int 8 t2, .int 32 819, .int 4 820, .int 4 821, .int 1 t3, .int 2 823, .int 128 824, .int 4 t4, .int 4 t5, .int 128 827]
  (.cons v0 (.cons (.int _ _) (.cons (.int _ _) (.cons (.int _ _) (.cons (.int _ _) (.cons (.int _ _) (.cons (.int _ _) (.cons (.int _ _) (.cons (.int _ _) (.cons (.int _ _) (.cons (.int _ _) (.cons (.int _ _) .nil)))))))))))))
theorem agc{X:Cx}(h1:fd.params.posonlyargs= [])(h2:fd.params.vararg=none)(h3:fd.params.kwonlyargs= [])(h4:fd.params.kwarg=none)(hn:fd.params.args.map (λz=>z.arg)= [("self" :Str),("rows" :Str)])(hd:fd.defaults= .ref 513)
  (ho:X.h₀.get? 513=some {cls:= .type "tuple",data:= .seq #[.ref 512]}) (he:X.h₀.get? 512=some {cls:= .type "tuple",data:= .seq #[]}) (v:ab):pT X fd [v] [] [v, .tuple []]:=by
 intro A E Q σ κ s ys dE G hv hk q;obtain ⟨y,z1,rfl,v0,jq⟩:=VR.cons_inv hv;cases VR.nil_inv jq;cases VR.nil_inv hk;rw [hn] at q
 refine Dd (names:= ["self","rows"]) (r:=some #[.ref 512]) (ds:= [.ref 512]) (res:= [("self",y),("rows", .ref 512)]) h1 h2 h3 h4 hn (Ov hd (G.keep _ _ ho) rfl) (by kernel_rfl) (by kernel_rfl) (by kernel_rfl) (by kernel_rfl) (by kernel_rfl) <| q [y, .ref 512] (.cons v0 (.cons (.tuple (items:= []) (G.base _ _ he) ⟨_,G.keep _ _ he,rfl,_,rfl⟩ .nil) .nil))
noncomputable def fnOf(d:Data):Option FuncData:=d.casesOn none (λJ=>none) (λJ J=>none) (λJ J=>none) (λJ J J=>none) (λJ J=>none) (λJ=>none) some (λJ=>none) (λJ=>none) none
noncomputable def Ow(d:Data):Option (Array Value):=d.casesOn none (λJ=>none) (λJ J=>none) (λJ J=>none) (λJ J J=>none) (λJ J=>none) (λJ=>none) (λJ=>none) (λJ=>none) some none
noncomputable def FZ(v:Value):Option Addr:=xV none none (λJ=>none) (λJ=>none) some v
noncomputable def Ox(v:Value):Option Str:=v.casesOn none none none (λJ=>none) (λJ J=>none) (λJ J=>none) (λq J=>some q) (λJ J=>none) (λJ=>none) (λJ=>none) λJ=>none
noncomputable def numOf(v:Value):Option Int:=xV none none (λJ=>none) some (λJ=>none) v
theorem agd{d:Data}(h:fnOf d=some fd):d= .func fd:=by
 rcases d with ⟨⟩<;>first | exact nn h | exact congrArg _ (aM h)
theorem age{d:Data}{vs:Array Value}(h:Ow d=some vs):d= .fields vs:=by
 rcases d with ⟨⟩<;>first | exact nn h | exact congrArg _ (aM h)
theorem Oy{v:Value}{c:Addr}(h:FZ v=some c):v= .ref c:=by
 rcases v with ⟨⟩<;>first | exact nn h | exact congrArg _ (aM h)
theorem agf{v:Value}{q:Str}(h:Ox v=some q):∃t,v= .str q t:=by
 rcases v with ⟨⟩<;>first | exact nn h | exact ⟨_,congrArg (λz=>zq z _) (aM h)⟩
theorem agg{v:Value}{i:Int}(h:numOf v=some i):∃t,v= .int i t:=by
 rcases v with ⟨⟩<;>first | exact nn h | exact ⟨_,congrArg (λz=>ait z _) (aM h)⟩
noncomputable def kP(K:eD)(a:Addr):FuncData:=((K.lookup a).bind λo=>fnOf o.data).getD default
noncomputable def agh(K:eD)(a:Addr):Option Bool:=((K.lookup a).bind λo=>fnOf o.data).bind λfd=>(FZ fd.code).bind λc=>((K.lookup c).bind λo=>Ow o.data).bind λvs=>(vs[1]?.bind Ox).map (λz=>z ==fd.qualname)
noncomputable def recOk(K:eD)(a:Addr):Bool:=agh K a==some true
theorem agi{K:eD}(e:recOk K a=true):(∃o,K.lookup a=some o/\o.data= .func (kP K a))/\∃c o vs t,(kP K a).code= .ref c/\K.lookup c=some o/\o.data= .fields vs/\vs[1]? =some (.str (kP K a).qualname t):=by
 obtain ⟨fd,hf,e⟩:=cQ.mp (eq_of_beq e);obtain ⟨c,hc,e⟩:=cQ.mp e;obtain ⟨vs,hv,e⟩:=cQ.mp e;obtain ⟨q,hq,e⟩:=lQ.mp e;obtain ⟨v,h1,h2⟩:=cQ.mp hq;obtain ⟨o,ho,hd⟩:=cQ.mp hf;obtain ⟨o',rq,fF⟩:=cQ.mp hv;refine aa (show kP K a=fd by rw [kP,hf];rfl) ?_;obtain ⟨t,h2⟩:=agf h2;exact ⟨⟨o,ho,agd hd⟩,c,o',vs,t,Oy hc,rq,age fF,h1.trans (congrArg some (h2.trans (congrArg (λz=>zq z t) (eq_of_beq e))))⟩
noncomputable def Oz(v:Value):Bool:=d9 v.ctorIdx 0
noncomputable def OA(K:eD)(a:Addr):Bool:=Oz (kP K a).defaults
theorem agj{v:Value}(h:Oz v=true):v= .none:=by
 rcases v with ⟨⟩<;>first | rfl | exact ff h
theorem agk{K:eD}(e:OA K a=true):(kP K a).defaults= .none:=agj e
noncomputable def OB(K:eD)(C:Addr)(x:Str):Bool:=plainGet K C x&&hasDictIn K C&&((findIn K (.ref C) x).map (noGet K)==some true)&&findIn K (.ref C) "__setattr__" ==some (some (.builtin "object.__setattr__"))&&plainOver K C&&takerIn K C x==some none
theorem agl{K:eD}{C:Addr}(e:OB K C x=true):vv K C x:=by
 exact dP (bR.mp e) λe e6=>dP (bR.mp e) λe e5=>dP (bR.mp e) λe e4=>dP (bR.mp e) λe e3=>dP (bR.mp e) λe1 e2=>⟨e1,e2,lQ.mp (eq_of_beq e3),eq_of_beq e4,e5,eq_of_beq e6⟩
theorem lookup_mem{α:Type} [BEq α] [LawfulBEq α]{l:List (α×β)}{a:α}{b:β}(h:l.lookup a=some b):(a,b)∈l:=by
 induction l with
 | nil=>exact nn h
 | cons p l ih =>
  obtain ⟨x,y⟩:=p;rw [kZ] at h
  rcases q:a==x with _ | _
  ·rw [q] at h;exact .tail _ (ih h)
  ·rw [q] at h;refine aa (eq_of_beq q) (ao (aM h) ?_);exact .head _
noncomputable def OC(K:eD)(C:Addr)(x:Str)(f:Addr):Bool:=plainGet K C x&&findIn K (.ref C) x==some (some (.ref f))&&isFn K (.ref f)
noncomputable def OD(K:eD)(C:Addr)(f:Addr):Bool:=makesIn K C&&findIn K (.ref C) "__init__" ==some (some (.ref f))&&typeIn K (.ref f)==some (.type "function")
noncomputable def OE(v:Value):Bool:=(numOf v).isNone
noncomputable def gB(K:eD)(x:Str)(v:ab):Bool:=xA false (λy=>OE y&&(nsIn K mainGlobals x==some (some y) || (nsIn K mainGlobals x==some none&&bootBuiltins x==some y&&x != "__name__")))
 (λi=>((nsIn K mainGlobals x).bind λo=>o.bind numOf)==some i) (λJ=>false) (λJ=>false) (λJ=>false) v
theorem agm(h:OE y=true):vw y= .raw y:=by
 rcases y with ⟨⟩<;>first | rfl | exact ff h
theorem agn{K:eD}(e:gB K x v=true):∃y,v=vw y/\(nsIn K mainGlobals x=some (some y)∨(nsIn K mainGlobals x=some none/\bootBuiltins x=some y/\x≠ "__name__")):=by
 rcases v with y | i | _ | _ | _ | _ | _ | _<;>first | exact ff e | skip
 ·refine dP (bR.mp e) λe1 e2=>⟨y,(agm e1).symm,(IQ.mp e2).imp eq_of_beq λe=> ?_⟩;refine dP (bR.mp e) λe e4=>dP (bR.mp e) λe2 e3=>⟨eq_of_beq e2,eq_of_beq e3,by simpa using e4⟩
 ·obtain ⟨o,h1,h2⟩:=cQ.mp (eq_of_beq e);obtain ⟨y,h3,h4⟩:=cQ.mp h2;obtain ⟨t,h5⟩:=agg h4;exact ⟨y,h5▸rfl, .inl (h1.trans (congrArg some h3))⟩
noncomputable def ghost(ts:List Addr)(h:Heap):Heap:=⟨h.objs.mapIdx λi o=>if ts.contains i then {o with data:= .freed} else o,h.life⟩
theorem ghost_get(ts:List Addr)(h:Heap)(a:Addr):(ghost ts h).get? a=if ts.contains a then none else h.get? a:=by
 unfold ghost Heap.get?;rw [Array.getElem?_mapIdx];cases q:h.objs[a]? with
 | none=>cases ts.contains a<;>rfl
 | some o =>
  cases ts.contains a with
  | true=>rfl
  | false=>rfl
theorem OG{ts:List Addr}{h:Heap}{o:Obj}(e:(ghost ts h).get? a=some o):h.get? a=some o/\ts.contains a=false:=by
 rw [ghost_get] at e
 cases q:ts.contains a with
 | true=>rw [q] at e;cases e
 | false=>rw [q] at e;exact ⟨e,rfl⟩
theorem sK{ts:List Addr}{h:Heap}{o:Obj}(e:h.get? a=some o)(q:ts.contains a=false):(ghost ts h).get? a=some o:=by
 refine aa (ghost_get ..) (aa q ?_);exact e
noncomputable def iD:List Addr:= [778,783,795]
noncomputable def qC:List (Addr×Addr×Str):= [(780,778,"_law_is_lost_right.<locals>.<lambda>"),(785,783,"_law_is_anew_right.<locals>.<lambda>"),(797,795,"_law_group_right.<locals>.<lambda>")]
noncomputable def F0(fd:FuncData)(t:Addr)(ns:List Str):Bool:=fd.params.posonlyargs.isEmpty&&fd.params.vararg.isNone&&fd.params.kwonlyargs.isEmpty&&fd.params.kwarg.isNone&&fd.params.args.map (λz=>z.arg)==ns&&fd.defaults== .ref t
theorem OH{t:Addr}{ns:List Str}(e:F0 fd t ns=true) :
  fd.params.posonlyargs= []/\fd.params.vararg=none/\fd.params.kwonlyargs= []/\fd.params.kwarg=none/\fd.params.args.map (λz=>z.arg)=ns/\fd.defaults= .ref t:=by
 exact dP (bR.mp e) λe e6=>dP (bR.mp e) λe e5=>dP (bR.mp e) λe e4=>dP (bR.mp e) λe e3=>dP (bR.mp e) λe1 e2=>⟨yO.mp e1,Cs.mp e2,yO.mp e3,Cs.mp e4,eq_of_beq e5,eq_of_beq e6⟩
noncomputable def F3(a:Addr):Bool:=a==781 || a==786 || a==798
noncomputable def Bc:List (Addr×Fn):=t8++ [(455,BZ),(520,B0)]
noncomputable def OI:List (Addr×Addr×Addr):= [(781,780,778),(786,785,783),(798,797,795)]
noncomputable def OJ(K:eD)(t:Addr×Addr×Addr):Bool:=(FZ (kP K t.1).code==some t.2.1)&&codeHdIn K t.2.1 t.2.2&&qC.contains (t.2.1,t.2.2,(kP K t.1).qualname++ ".<locals>." ++ "<lambda>")
structure xS(K:nG->eD):Prop where
 fns:∀P,Bc.map (λp=>va 20 (F3 p.1) lZ (kP (K P) p.1))=Bc.map λp=>some p.2
 ago:∀P,Bc.all (λp=>recOk (K P) p.1)=true
 agp:∀P,t8.all (λp=>OA (K P) p.1)=true
 fields:∀P,BC.all (λp=>p.2.all λx=>OB (K P) p.1 x)=true
 meths:∀P,GO.all (λp=>p.2.all λq=>OC (K P) p.1 q.1 q.2)=true
 yB:∀P,BD.all (λp=>OD (K P) p.1 p.2)=true
 agq:∀P,lZ.all (λp=>gB (K P) p.1 p.2)=true
 keys:∀P,(K P).all (λp=> !iD.contains p.1)=true
 heads:∀P,qC.all (λt=>codeHdIn (K P) t.1 t.2.1)=true
 lams:∀P,OI.all (OJ (K P))=true
 agr:∀P,F0 (kP (K P) 455) 448 Bb=true
 ags:∀P,F0 (kP (K P) 520) 513 ["self","rows"]=true
 agt:∀P,(K P).lookup 448=some {cls:= .type "tuple",data:= .seq xR}
 agu:∀P,(K P).lookup 513=some {cls:= .type "tuple",data:= .seq #[.ref 512]}
 agv:∀P,(K P).lookup 512=some {cls:= .type "tuple",data:= .seq #[]}
 law:∀P,nsIn (K P) mainGlobals "law" =some (some (.ref 805))
def agw(K:nG->eD)(prog:dN)(l:yd):Prop:=∀(w:cO) (s:al) (qD:ExcName->Option Value) (p:dN) (loose:List Str) (mg mb:Str->Option Value) (fa:Addr) (args:List WData) (v:List Value),
 Top p loose qD mg mb s.heap->importsNone p=true->(K w.params).In s.heap->(∀P∈iD,s.heap.get? P=some (tabObj #[]))->s.gens= #[]->mg "law" =some (.ref fa)->l.row.toRowW.claim.pre args=true->WellAll w.params s.heap v args->
  ai (model prog w) callerA (yc (.ref fa) v) (ph s) (λJ J=>False) s
section
variable{K:nG->eD}(F:xS K)
include F
theorem agx(P:nG):∀x v,lZ.lookup x=some v->∃y,v=vw y/\(nsIn (K P) mainGlobals x=some (some y)∨(nsIn (K P) mainGlobals x=some none/\bootBuiltins x=some y/\x≠ "__name__")):=λx v h =>
 agn (fx.mp (F.agq P) (x,v) (lookup_mem h))
theorem ghost_K{w:cO}{h:Heap}(X:(K w.params).In h):(K w.params).In (ghost iD h):=λa o e =>
 sK (X a o e) (by simpa using fx.mp (F.keys w.params) (a,o) (lookup_mem e))
end
noncomputable def j8(K:nG->eD)(prog:dN)(w:cO)(h:Heap)(os:OsState):Cx:=⟨prog,w,K w.params,ghost iD h,os,qC⟩
section
variable{K:nG->eD}(F:xS K){prog:dN}{w:cO}{h:Heap}{os:OsState}{p:dN}{loose:List Str}{qD:ExcName->Option Value}{mg mb:Str->Option Value}
include F
theorem agy(T:Top p loose qD mg mb h)(hi:importsNone p=true)(Y:(K w.params).In h)(ht:∀P∈iD,h.get? P=some (tabObj #[])):eY (j8 K prog w h os) where
 K:=ghost_K F Y
 nolimit:=let ⟨mc,⟨o,es,ep,e,r⟩,q⟩:=T.nolimit;⟨mc,⟨o,es,ep,sK e rfl,r⟩,q⟩
 glob:=by
  refine OL (T.bmain) λbm ob h1 h2 h3 h4 h5 h6=>OM (T.g) λo es ep e r r'=> ?_;refine o0 (T.b) λagz Ib Ic e' rb=> ?_
  have bt:bm≠mainGlobals:=λq=>by
   rw [q,e] at h3
   cases h3;rw [r] at h6
   cases h6
  refine ⟨mg,mb,⟨o,es,ep,sK e rfl,r,r'⟩,⟨agz,Ib,Ic,sK e' rfl,rb⟩,T.builtins,bm,ob,h1,h2,bt,sK h3 ?_,h4,h5,h6⟩;cases q:iD.contains bm with
  | false=>rfl
  | true =>
   have:=ht bm (sJ.mp q)
   rw [h3] at this
   cases this;cases h4
 cls:=λC x hf=>by
  unfold mP at hf
  cases q:BC.lookup C with
  | none=>rw [q] at hf;cases hf
  | some l =>
   rw [q] at hf
   exact agl (fx.mp (fx.mp (F.fields w.params) _ (lookup_mem q)) x (sJ.mp hf))
 HH:=let ⟨_,⟨o,_,_,e,_⟩,_⟩:=(T.seer hi).mods;⟨o,sK e rfl⟩
 meths:=λC x f hm=>by
  unfold po at hm
  refine aB (cQ.mp hm) λl q q'=> ?_
  have:=fx.mp (fx.mp (F.meths w.params) _ (lookup_mem q)) _ (lookup_mem q')
  unfold OC at this
  simp only [q9] at this
  exact ⟨this.1.1,eq_of_beq this.1.2,this.2⟩
 yB:=λC f hm=>by
  have:=fx.mp (F.yB w.params) _ (lookup_mem hm)
  unfold OD at this
  simp only [q9] at this
  exact ⟨this.1.1,eq_of_beq this.1.2,eq_of_beq this.2⟩
 HI:=by
  refine (?_:∀t∈qC,∀t'∈qC,t.2.1=t'.2.1->t=t')
  decide +kernel
theorem F6(Y:(K w.params).In h){f:Fn}(m:(a,f)∈Bc):∃lam,pS (j8 K prog w h os) a f (kP (K w.params) a) lam:=by
 obtain ⟨⟨o,e1,e2⟩,c,oc,vs,t,e3,e4,e5,e6⟩:=agi (fx.mp (F.ago w.params) _ m);refine ⟨F3 a,⟨o,ghost_K F Y _ _ e1,e2⟩,⟨c,oc,vs,t,e3,ghost_K F Y _ _ e4,e5,e6⟩,List.map_inj_left.mp (F.fns w.params) _ m,λq=> ?_⟩;obtain ⟨co,Q,hm⟩:∃co Q,(a,co,Q)∈OI:=by
  unfold F3 at q
  simp only [UJ,beq_iff_eq] at q
  rcases q with (rfl | rfl) | rfl
  ·exact ⟨780,778, .head _⟩
  ·exact ⟨785,783, .tail _ (.head _)⟩
  ·exact ⟨797,795, .tail _ (.tail _ (.head _))⟩
 have hb:=fx.mp (F.lams w.params) _ hm
 unfold OJ at hb
 simp only [q9] at hb
 obtain ⟨⟨b1,b2⟩,b3⟩:=hb;exact ⟨co,Q,Oy (eq_of_beq b1),codeHd_of_K (ghost_K F Y) b2,sJ.mp b3⟩
theorem agA(T:Top p loose qD mg mb h)(hi:importsNone p=true)(Y:(K w.params).In h)(ht:∀P∈iD,h.get? P=some (tabObj #[])):Ctx (j8 K prog w h os) where
 ok:=agy F T hi Y ht
 hg:=agx F w.params
 fns:=λq hq=>by
  obtain ⟨lam,D⟩:=F6 F (prog:=prog) (os:=os) Y (List.mem_append_left _ hq);exact ⟨_,lam,D,agk (fx.mp (F.agp w.params) q hq)⟩
theorem agB(Y:(K w.params).In h):∃fd lam,pS (j8 K prog w h os) 455 BZ fd lam/\∀v,pT (j8 K prog w h os) fd [v, .int 4, .int 8] [("ring", .int 1),("uber", .int 4),("config", .int 4)] [v, .int 4, .int 8, .int 32, .int 4, .int 4, .int 1, .int 2, .int 128, .int 4, .int 4, .int 128]:=by
 obtain ⟨lam,D⟩:=F6 F (prog:=prog) (os:=os) Y (agC t8 (.head _));refine Gd (OH (F.agr w.params)) λa1 a2 a3 a4 a5 a6=> ?_
 have e:(j8 K prog w h os).h₀.get? 448=some {cls:= .type "tuple",data:= .seq xR}:=ghost_K F Y _ _ (F.agt w.params)
 exact ⟨_,lam,D,λv=>agb a1 a2 a3 a4 a5 a6 e v⟩
theorem agD(Y:(K w.params).In h):∃fd lam,pS (j8 K prog w h os) 520 B0 fd lam/\∀v,pT (j8 K prog w h os) fd [v] [] [v, .tuple []]:=by
 obtain ⟨lam,D⟩:=F6 F (prog:=prog) (os:=os) Y (agC t8 (.tail _ (.head _)));refine Gd (OH (F.ags w.params)) λa1 a2 a3 a4 a5 a6=> ?_
 have e:(j8 K prog w h os).h₀.get? 513=some {cls:= .type "tuple",data:= .seq #[.ref 512]}:=ghost_K F Y _ _ (F.agu w.params)
 have e':(j8 K prog w h os).h₀.get? 512=some {cls:= .type "tuple",data:= .seq #[]}:=ghost_K F Y _ _ (F.agv w.params)
 exact ⟨_,lam,D,λv=>agc a1 a2 a3 a4 a5 a6 e e' v⟩
theorem agE(T:Top p loose qD mg mb h)(hi:importsNone p=true)(Y:(K w.params).In h)(ht:∀P∈iD,h.get? P=some (tabObj #[])):uH (j8 K prog w h os) :=
 ⟨agA F T hi Y ht,agB F Y,agD F Y⟩
end
theorem agF{R:WRecords}{xs:List WData}:agG R xs .int=true->∃is:List Int,xs=is.map .int:=by
 induction xs with
 | nil=>exact λJ=>⟨[],rfl⟩
 | cons x xs ih =>
  intro h;simp only [agG,q9] at h
  obtain ⟨i,rfl⟩:=hasW_int h.1;obtain ⟨is,rfl⟩:=ih h.2;exact ⟨i::is,rfl⟩
theorem agH{R:WRecords}{t:WTm}{e:WCtx}(h:t.holds R e=true):t.value R e=some (.bool true):=by
 unfold P5 at h
 rcases q:t.value R e with _ | d
 ·rw [q] at h;exact ff h
 rw [q] at h
 rcases d with _ | b<;>first | exact ff h | skip
 rcases b with _ | _
 ·exact ff h
 ·rfl
theorem agI{l:yd}(hm:l.most=some 63)(hb:l.bound=none){args:List WData}(h:l.row.toRowW.claim.pre args=true):∃xs:List Int,args= [.list (xs.map .int)]/\xs.length≤63:=by
 obtain ⟨h1,h2⟩:=pre_splitW h;change aiu [] args [.list .int]=true at h1
 refine eR (hasAllW_cons h1) λd r bL h3 h4=> ?_;subst bL;cases hasAllW_nil h4;refine aB (hasW_list h3) λys a0 h5=> ?_;subst a0;obtain ⟨xs,rfl⟩:=agF h5;refine ⟨xs,rfl, ?_⟩;change l.pre.holds [] {args:= [.list (xs.map .int)]}=true at h2
 unfold aiv at h2
 rw [hm,hb] at h2
 have h6:=agH (holds_andW h2).1
 simp only [P6,less_int,List.getElem?_cons_zero,aC,AI] at h6
 by_cases q:xs.length≤63
 ·exact q
 ·have e:decide ((63:Int)<(xs.length:Int))=true:=by simp;exact il.mpr (EA q)
  simp [e] at h6
theorem F7:∀t∈qC,t.2.1∈iD:=by decide +kernel
theorem agJ:∀b∈iD,∃t∈qC,t.2.1=b:=by decide +kernel
noncomputable def κ0:bI:=λa=>if iD.contains a then .tab else .none
theorem agK{K:nG->eD}{w:cO}(ht:∀P∈iD,s.heap.get? P=some (tabObj #[]))(hg:s.gens= #[]):bk (j8 K prog w s.heap s.os) (λJ=>none) κ0 s where
 keep:=λb o e=>(OG e).1
 os:=rfl
 gens:=hg
 tabs:=λt h=>⟨#[],ht _ (F7 t h),trivial,λpos cv h=>by cases h⟩
 base:=λa o e=>⟨rfl,by unfold κ0;refine aa ((OG e).2) ?_;rfl⟩
 lt:=λa h=>by
  cases q:iD.contains a with
  | true=>exact ⟨_,ht a (sJ.mp q)⟩
  | false=>exact absurd ⟨rfl,by unfold κ0;refine aa q ?_;rfl⟩ h
 fr:=λa L h=>by unfold κ0 at h;split at h<;>exact bW h
 excl:=λa h=>absurd rfl h
 own:=λa o h=>by cases h
 dict:=λd a h=>by unfold κ0 at h;split at h<;>exact bW h
 tab:=λt h=>if_pos (sJ.mpr (F7 t h))
theorem agL{K:nG->eD}(F:xS K){w:cO}{σ':aq}{κ':bI}(Y:(K w.params).In s.heap)(ht:∀P∈iD,s.heap.get? P=some (tabObj #[]))(G:bk (j8 K prog w s.heap s.os) σ' κ' s'):OldK s.heap s'.heap:=by
 have key:∀b o,s.heap.get? b=some o->s'.heap.get? b=some o∨∃t∈qC,t.2.1=b:=λb o e=>by
  cases q:iD.contains b with
  | true=>exact .inr (agJ b (sJ.mp q))
  | false=>exact .inl (G.keep b o (sK e q))
 refine ⟨λb o e=> ?_,λb o e=> ?_⟩
 ·rcases key b o e with h | ⟨t,h,rfl⟩
  ·exact .inl h
  ·obtain ⟨ps,e',_⟩:=G.tabs t h
   have e0:=ht _ (F7 t h)
   rw [e] at e0
   cases e0;exact .inr (.inl ⟨((codeHd_of_K Y (fx.mp (F.heads w.params) t h)).tab e).isCodeTable,rfl, #[],ps,rfl,aa abt e'⟩)
 ·rcases key b o e with h | ⟨t,h,rfl⟩
  ·exact ⟨o,h⟩
  ·exact aB (G.tabs t h) λps e' J=>⟨_,e'⟩
theorem agM{P:nG}{h:Heap}{xs:List Int}:∀{vs:List Value},WellAll P h vs (xs.map .int)->aN U h (xs.map .int) vs:=by
 induction xs with
 | nil=>intro vs r;cases r;exact .nil
 | cons x xs ih =>
  intro vs r;cases r with | cons a b =>
  cases a;exact .cons (.int _ _) (ih b)
theorem agN:cG 12 callerA:=⟨rfl,by decide +kernel,by decide +kernel⟩
theorem agO{K:nG->eD}(F:xS K){w:cO}{p:dN}{loose:List Str}{qD:ExcName->Option Value}{mg mb:Str->Option Value}
  (T:Top p loose qD mg mb s.heap) (hi:importsNone p=true) (Y:(K w.params).In s.heap) (ht:∀P∈iD,s.heap.get? P=some (tabObj #[])) (hg:s.gens= #[]) {v:Value} {xs:List Int} (hl:xs.length≤63) (hv:Well w.params s.heap v (.list (xs.map .int))) :
  ai (model prog w) callerA (yc (.ref 805) [v]) (ph s) (λJ J=>False) s:=by
 have CK:uH (j8 K prog w s.heap s.os):=agE F T hi Y ht
 cases hv with | list e hs =>
 have u:aj (λJ=>none) κ0 a:=⟨rfl,by
  unfold κ0;cases q:iD.contains a with
  | false=>rfl
  | true =>
   have e':=ht a (sJ.mp q)
   rw [e] at e'
   cases e'⟩
 have r:am (aj (λJ=>none) κ0) s.heap (.list (xs.map .int)) (.ref a):= .list u ⟨_,e,rfl,_,rfl⟩ (agM hs)
 have h:=(aeX CK af' (n:=0) (K:=λv J=>v=ab.bool true) (σ:=λJ=>none) (cq:=xs) (sv:= .list (xs.map .int)) (.inl rfl) (ag hl (nb rfl)) (λJ=>rfl)).run callerA κ0 s (.ref 805) [.ref a] [] agN (agK ht hg) (.raw _) (.one r) .nil
 refine eS h.2 (λz s' hz=> ?_) (λJ J h=>h);obtain ⟨v,σ',κ',G,E,rz,rfl⟩:=hz;cases rz.bQ;exact ⟨rfl,agL F Y ht G,G.os,G.gens⟩
theorem agP{K:nG->eD}(F:xS K){l:yd}(hm:l.most=some 63)(hb:l.bound=none):agw K prog l:=by
 intro w s qD p loose mg mb fa args v T hi Y ht hg e hpre jc;refine aB (agI hm hb hpre) λxs a0 hl=> ?_;subst a0;cases jc with | cons hv hn =>
 cases hn
 have e2:(m1 fa)= .ref 805:=aM (e.symm.trans (mg_of Y T.g (F.law w.params)))
 cases e2;exact agO F T hi Y ht hg hl hv
end
end Mine.Internal
namespace Mine.Internal.PySem.W
theorem holds_open{l:yd}{q:dN}{loose:List Str}{Xt:al->Bool}{XP:(Str->Option Value)->Heap->Prop}{α:Type}{Yf:al->α}{Ya:cO->α}{YP:cO->Heap->Prop}{d:DefRec}{kwd:List (Str×Expr)}{N:Nat}
  (left:LeftO l.prog q loose Xt Yf Ya N) (hY:∀w s,Yf s=Ya w->YP w s.heap) (hYk:∀w h h',YP w h->(∀b o,h.get? b=some o->h'.get? b=some o)->YP w h')
  (hX:∀s,Xt s=true->XP (s.heap.nsMap mainGlobals) s.heap) (hXk:∀mg h h',XP mg h->(∀b o,h.get? b=some o->h'.get? b=some o)->XP mg h')
  (hdef:defOf q l.name=some (d,kwd)) (hp:l.prog.theDef l.name=some (d.params,d.body,d.scope)) (hk:kwWritten? d.params.kwonlyargs d.params.kw_defaults=some kwd) (hRf:∀s,Xt s=true->RecFacts l.row.records s.heap) (hwr:l.writes=false)
  (agQ:l.row.wellSaid=true) (ok:(chainsOk q&&opensWell l.prog)=true) (hb:l.prog.bare) (hw:l.row.toRowW.promised)
  (call:∀(w:cO) (Bd s:al) (mg mb:Str->Option Value) (a:Addr) (args:List WData) (vs:List Value),Ground q loose [] XP w Bd mg mb s.heap->YP w s.heap->s.gens= #[]->mg l.name=some (.ref a)->
   l.row.toRowW.claim.pre args=true->WellAll w.params s.heap vs args->ai (model l.prog w) callerA (yc (.ref a) vs) (ph s) (λJ J=>False) s):l.row.Holds:=by
 have c:=bR.mp ok
 refine ⟨agQ,hw,⟨hb,c.2,rfl⟩,hw.witness,λw=>(left.behind hX c.1 w).imp_right λstart t ht=> ?_⟩;obtain ⟨Bd,agR,agS,s,agT,z,g,m0,G,y⟩:=start t ht;refine ⟨Bd,agR,agS,s,agT,λn h=> ?_,λx h=>absurd h dJ,λx h=>absurd h dJ,P3 z (Array.eq_empty_of_size_eq_zero (beq_iff_eq.mp g)) (λh e=>ff (hwr.symm.trans e)) λargs vs aG as pre L=> ?_⟩
 ·exact dL.mp h▸pinned_of_view m0 G hdef hp hk
 ·obtain ⟨a, -, -, -, -, -, -,e, -⟩:=G.fn hdef
  have OK:=G.keeps hXk L.keeps
  exact P2 OK.T.g e (call w s aG _ _ a args vs OK (hYk _ _ _ (hY w s y) L.keeps) L.gens e pre L.well)
end Mine.Internal.PySem.W
namespace Mine.Internal
set_option Elab.async true
namespace lw
section
variable{P:Prop}(p:P)
include p
theorem tw1317740356011687716:P:=p
theorem tw4891687870035379780:P:=p
theorem tw13759937816580950596:P:=p
theorem tw4874853781469675556:P:=p
theorem tw10074497519079031844:P:=p
theorem tw1254801381390392132:P:=p
theorem tw13373129996510810884:P:=p
theorem tw10792498305222211780:P:=p
theorem tw4793903448862963908:P:=p
theorem tw1268780016754650180:P:=p
theorem tw15210035178654868548:P:=p
theorem tw8625810534588798116:P:=p
theorem tw9306523232488899012:P:=p
theorem tw13661514628011345444:P:=p
theorem tw14034429943585453764:P:=p
theorem tw5140614445254257348:P:=p
theorem tw2746743500694820125:P:=p
theorem tw15275400379316937533:P:=p
theorem tw4651098494325951581:P:=p
theorem tw4092823065280889597:P:=p
theorem tw3473829003367461629:P:=p
theorem tw14357279909528831165:P:=p
theorem tw5687394275525980061:P:=p
theorem tw10368257341941338109:P:=p
theorem tw12636159510132885501:P:=p
theorem tw12124219101387635933:P:=p
theorem tw269586189540180125:P:=p
theorem tw15510996111380689053:P:=p
theorem tw10541707088543833405:P:=p
theorem tw8174503904959741341:P:=p
theorem tw14527836939870504797:P:=p
theorem tw1046835108258935878:P:=p
theorem tw8006061184408389126:P:=p
theorem tw10095529861096278534:P:=p
theorem tw6428054980512578054:P:=p
theorem tw328508497005127558:P:=p
theorem tw11561282272582072358:P:=p
theorem tw15092935235870633382:P:=p
theorem tw12597952441563137222:P:=p
theorem tw5859323691962169190:P:=p
theorem tw7523915416601037030:P:=p
theorem tw767172815569187494:P:=p
theorem tw1500456790733554950:P:=p
theorem tw4034639911605458726:P:=p
theorem tw16483187003708532415:P:=p
theorem tw13962118774098758335:P:=p
theorem tw8140864706728980543:P:=p
theorem tw7487086627309823775:P:=p
theorem tw1868770696946479999:P:=p
theorem tw6936655597405863807:P:=p
theorem tw3001939140903595679:P:=p
theorem tw12449725122484747359:P:=p
theorem tw14597567944005047327:P:=p
theorem tw12452559902917305375:P:=p
theorem tw12149565774979256511:P:=p
theorem tw16723587422829747679:P:=p
theorem tw4517662897299878239:P:=p
theorem tw929214502404347903:P:=p
theorem tw2751748352880171391:P:=p
theorem tw545652526130519871:P:=p
theorem tw5390952190106285663:P:=p
theorem tw15402412248803567871:P:=p
theorem tw9282094642374709568:P:=p
theorem tw1935478263439982912:P:=p
theorem tw12509454800076760672:P:=p
theorem tw8106976296820481632:P:=p
theorem tw2927057053421443104:P:=p
theorem tw7908841922199866400:P:=p
theorem tw9835122456515961536:P:=p
theorem tw6748521087932229760:P:=p
theorem tw17998238267934222912:P:=p
theorem tw8566329084116938112:P:=p
theorem tw5125923661299071136:P:=p
theorem tw12973731012551830784:P:=p
theorem tw1412572104851141888:P:=p
theorem tw2390430148983803872:P:=p
theorem tw3215336526155048928:P:=p
theorem tw5008651151951837824:P:=p
theorem tw8315000093500651936:P:=p
theorem tw6042258488848875872:P:=p
theorem tw18209123641935325984:P:=p
theorem tw12761873364268739689:P:=p
theorem tw11577336834258990985:P:=p
theorem tw10358832629102736201:P:=p
theorem tw14469795387298460361:P:=p
theorem tw6386064932757117289:P:=p
theorem tw15698974789317075017:P:=p
theorem tw5233838842208986345:P:=p
theorem tw4488691539262379529:P:=p
theorem tw11840444404708370377:P:=p
theorem tw15593703714272712297:P:=p
theorem tw8553814936631791081:P:=p
theorem tw18093281958592160233:P:=p
theorem tw16086080681773724425:P:=p
theorem tw5925515437476944457:P:=p
theorem tw8469755959250543337:P:=p
theorem tw3604977338527103657:P:=p
theorem tw16542918278513067682:P:=p
theorem tw5115510238296341954:P:=p
theorem tw15958402827170664994:P:=p
theorem tw12645917167651928898:P:=p
theorem tw6964675797379735010:P:=p
theorem tw14626639485320294306:P:=p
theorem tw11029867385059771074:P:=p
theorem tw2405475704893226338:P:=p
theorem tw11712372045021717858:P:=p
theorem tw8293674614852346658:P:=p
theorem tw1800410382882828802:P:=p
theorem tw17181495377500265442:P:=p
theorem tw11915490748938347650:P:=p
theorem tw10212493876496574923:P:=p
theorem tw827479041082624683:P:=p
theorem tw2547448946846391627:P:=p
theorem tw4290628368310934219:P:=p
theorem tw15575875123266071403:P:=p
theorem tw5023792859984045355:P:=p
theorem tw8647460080848583403:P:=p
theorem tw73973722521867659:P:=p
theorem tw4564959416834318443:P:=p
theorem tw13393245709029704107:P:=p
theorem tw10820596746259049899:P:=p
theorem tw8234556347694557676:P:=p
theorem tw8159807821798135276:P:=p
theorem tw17658493873293633100:P:=p
theorem tw11219945794011814764:P:=p
theorem tw8552909254568121644:P:=p
theorem tw12810083539438501836:P:=p
theorem tw12617315692731039468:P:=p
theorem tw11959676166655372:P:=p
theorem tw2351375405295373996:P:=p
theorem tw6917820967049653068:P:=p
theorem tw3061749291856377612:P:=p
theorem tw15785122201155726092:P:=p
theorem tw848142771130558220:P:=p
theorem tw16917494232130641100:P:=p
theorem tw1904943443160507180:P:=p
theorem tw14969264685049890604:P:=p
theorem tw14373636535633666284:P:=p
theorem tw4748579674229032844:P:=p
theorem tw17774664215771753068:P:=p
theorem tw5337859672975932012:P:=p
theorem tw4744993198167743756:P:=p
theorem tw1991712393429745708:P:=p
theorem tw1591426542384968396:P:=p
theorem tw3586066094315218885:P:=p
theorem tw623915675358399525:P:=p
theorem tw1178098271297629509:P:=p
theorem tw1229987923449181029:P:=p
theorem tw17204189219987857029:P:=p
theorem tw7037708534793307429:P:=p
theorem tw5220053623713485925:P:=p
theorem tw10083024119178227813:P:=p
theorem tw16855044481208013701:P:=p
theorem tw653870401835413029:P:=p
theorem tw7125224892985899557:P:=p
theorem tw2534258505758795749:P:=p
theorem tw17666739732705521925:P:=p
theorem tw9017288890765613413:P:=p
theorem tw9163909574574228613:P:=p
theorem tw12240881281782545541:P:=p
theorem tw3776507692008384581:P:=p
theorem tw15901351118654218469:P:=p
theorem tw9998418518067754734:P:=p
theorem tw17225966741432296622:P:=p
theorem tw6803508074114574030:P:=p
theorem tw16105384145348270734:P:=p
theorem tw7134068128584783950:P:=p
theorem tw18241463396100026894:P:=p
theorem tw14595940789809021038:P:=p
theorem tw10412344539942979342:P:=p
theorem tw8689734415198100526:P:=p
theorem tw13917020640543503502:P:=p
theorem tw609145960767080590:P:=p
theorem tw3875778124584231854:P:=p
theorem tw17543005655710871118:P:=p
theorem tw966466718389069102:P:=p
theorem tw18150923246978984238:P:=p
theorem tw13661940216953614638:P:=p
theorem tw1185982190925468071:P:=p
theorem tw18277289176499361191:P:=p
theorem tw1643676298535475047:P:=p
theorem tw5041793936090115943:P:=p
theorem tw7784965808082541511:P:=p
theorem tw8640573802255680807:P:=p
theorem tw15424569465761309767:P:=p
theorem tw3789559117708168359:P:=p
theorem tw5482878818544778407:P:=p
theorem tw3608376589796808295:P:=p
theorem tw16528528073963131848:P:=p
theorem tw15359275564815675208:P:=p
theorem tw14589848975385650952:P:=p
theorem tw8652013344467252136:P:=p
theorem tw17748564534510863272:P:=p
theorem tw16213905958417466216:P:=p
theorem tw9512890290919162600:P:=p
theorem tw4796016322335212264:P:=p
theorem tw11051018900882481608:P:=p
theorem tw6964701077244621704:P:=p
theorem tw234260102214763048:P:=p
theorem tw15149700034893764584:P:=p
theorem tw6132271569491525896:P:=p
theorem tw14847067075880898984:P:=p
theorem tw4750854738071553544:P:=p
theorem tw4286979676123949576:P:=p
theorem tw2836102388638931464:P:=p
theorem tw17873062064797781169:P:=p
theorem tw1030108092214171473:P:=p
theorem tw10569155253780507921:P:=p
theorem tw4014061881561852625:P:=p
theorem tw14972087109178838129:P:=p
theorem tw11792148261818468945:P:=p
theorem tw5042195631050120785:P:=p
theorem tw4782750533885527057:P:=p
theorem tw6196101541829718833:P:=p
theorem tw12078326605251031978:P:=p
theorem tw9335102103294565290:P:=p
theorem tw8439904040763797866:P:=p
theorem tw1123697166913363594:P:=p
theorem tw9184958980059062058:P:=p
theorem tw2543408177574796234:P:=p
theorem tw2676460049748256810:P:=p
theorem tw9740144412726383466:P:=p
theorem tw16117142515281087338:P:=p
theorem tw18241349281545629994:P:=p
theorem tw7318763839724260010:P:=p
theorem tw15539720306434480586:P:=p
theorem tw4780080441174413418:P:=p
theorem tw10921995304656465290:P:=p
theorem tw17952023276510287242:P:=p
theorem tw6558412841965581866:P:=p
theorem tw1470216138731190419:P:=p
theorem tw1534692082788604211:P:=p
theorem tw12361862950186661171:P:=p
theorem tw1699640158957721907:P:=p
theorem tw9102731010411072243:P:=p
theorem tw1059371253066264755:P:=p
theorem tw2481449703594310931:P:=p
theorem tw10701527876939973907:P:=p
theorem tw3547491431177881235:P:=p
theorem tw4588050194969094035:P:=p
theorem tw12077790324794688628:P:=p
theorem tw10266518395865594644:P:=p
theorem tw5773961752713496340:P:=p
theorem tw12095266204899116244:P:=p
theorem tw5206623808014171348:P:=p
theorem tw7994341597861512180:P:=p
theorem tw16107226520609314164:P:=p
theorem tw17906607146359188852:P:=p
theorem tw2340529830118873332:P:=p
theorem tw5831441691907857012:P:=p
theorem tw14316628552154784820:P:=p
theorem tw13312272425294290644:P:=p
theorem tw9915464335215053236:P:=p
theorem tw5374180061228560916:P:=p
theorem tw51720421659952436:P:=p
theorem tw11896474843553284500:P:=p
theorem tw13223428586997808365:P:=p
theorem tw10244122998257062125:P:=p
theorem tw3624436856412130701:P:=p
theorem tw3067125328715954285:P:=p
theorem tw15919587818007096813:P:=p
theorem tw7462048295715242637:P:=p
theorem tw15015924895950195629:P:=p
theorem tw8552690989925899629:P:=p
theorem tw1230055744279412077:P:=p
theorem tw3576144482165511629:P:=p
theorem tw7631058599633569677:P:=p
theorem tw8058514141588749581:P:=p
theorem tw14256188203185383693:P:=p
theorem tw816896538103774285:P:=p
theorem tw2415413016409413485:P:=p
theorem tw7950182503767279350:P:=p
theorem tw18073717759784555030:P:=p
theorem tw11583535932942529046:P:=p
theorem tw3633100399888323926:P:=p
theorem tw14623592809310824214:P:=p
theorem tw17487617495999023894:P:=p
theorem tw9456798510071931766:P:=p
theorem tw17816585273970102070:P:=p
theorem tw6013560171739727446:P:=p
theorem tw13382628593453379830:P:=p
theorem tw7391480282035405942:P:=p
theorem tw9674526763944313974:P:=p
theorem tw16684799168601916534:P:=p
theorem tw7467278995145273846:P:=p
theorem tw11739627349350296502:P:=p
theorem tw4456370354936069334:P:=p
theorem tw3841017598918211894:P:=p
theorem tw10687921905277340758:P:=p
theorem tw8278214708261660655:P:=p
theorem tw6629863514224131055:P:=p
theorem tw3598463425962182287:P:=p
theorem tw6680481852840298863:P:=p
theorem tw14212218795685333455:P:=p
theorem tw18242598970179586383:P:=p
theorem tw120436423148280431:P:=p
theorem tw13575610632328879727:P:=p
theorem tw2911513883338612431:P:=p
theorem tw7852758051803768303:P:=p
theorem tw13590714432079072399:P:=p
theorem tw12853157748631182191:P:=p
theorem tw3253253950988697903:P:=p
theorem tw16002979010363898159:P:=p
theorem tw12827026076842152687:P:=p
theorem tw11975962629410069679:P:=p
theorem tw4981454337651765071:P:=p
theorem tw17756147451419572335:P:=p
theorem tw7075990605320406127:P:=p
theorem tw12315733441044661807:P:=p
theorem tw13978692290187365520:P:=p
theorem tw1325044099827735120:P:=p
theorem tw5315160707588507504:P:=p
theorem tw7485398069628185264:P:=p
theorem tw1142355019740501840:P:=p
theorem tw4618616238378817648:P:=p
theorem tw3111367611268019312:P:=p
theorem tw4968389348411513392:P:=p
theorem tw1908959043611792592:P:=p
theorem tw2994295407735826416:P:=p
theorem tw5550897812004100016:P:=p
theorem tw811229101338782896:P:=p
theorem tw1553788546417664121:P:=p
theorem tw11626137220754446745:P:=p
theorem tw1021438395722766905:P:=p
theorem tw13529503754618321753:P:=p
theorem tw6436845729546354521:P:=p
theorem tw10205356706778465785:P:=p
theorem tw4214014738629060985:P:=p
theorem tw1915390726761382713:P:=p
theorem tw12995608895179649561:P:=p
theorem tw1523373632341630489:P:=p
theorem tw6386134590190477497:P:=p
theorem tw16564724845878112889:P:=p
theorem tw10713417226662903865:P:=p
theorem tw17339256524105962361:P:=p
theorem tw13089720776559570809:P:=p
theorem tw7315862116935434553:P:=p
theorem tw20821670009931065:P:=p
theorem tw12313260075559185081:P:=p
theorem tw17231523917408687090:P:=p
theorem tw3810312251416541170:P:=p
theorem tw1805976066224280658:P:=p
theorem tw2394305803245488370:P:=p
theorem tw7218016945680604402:P:=p
theorem tw9506958716137973650:P:=p
theorem tw17706490804527167378:P:=p
theorem tw4523295397152966322:P:=p
theorem tw15673749076247207986:P:=p
theorem tw17235436633000002706:P:=p
theorem tw11968209185797773458:P:=p
theorem tw4057658146817674834:P:=p
theorem tw12308242874852991570:P:=p
theorem tw16826319711153460690:P:=p
theorem tw228264036513947026:P:=p
theorem tw1673367965647081307:P:=p
theorem tw1450340613285230427:P:=p
theorem tw10250146026545576443:P:=p
theorem tw5354732753209031163:P:=p
theorem tw570793565817720603:P:=p
theorem tw5327429479519802683:P:=p
theorem tw11315772465074220059:P:=p
theorem tw13357853945174297051:P:=p
theorem tw4125642558874224763:P:=p
theorem tw8579246703887760667:P:=p
theorem tw15394238562514820827:P:=p
theorem tw5946596651473903867:P:=p
theorem tw397416617942838811:P:=p
theorem tw12678896575659397819:P:=p
theorem tw5419588185397160571:P:=p
theorem tw3753397570383686715:P:=p
theorem tw10562729720752563676:P:=p
theorem tw2098812580546640444:P:=p
theorem tw15145139149235514940:P:=p
theorem tw11368732250943152412:P:=p
theorem tw14202144109359658940:P:=p
theorem tw1541661670051384252:P:=p
theorem tw4996011364757594492:P:=p
theorem tw8023086137235932124:P:=p
theorem tw5930509324486579612:P:=p
theorem tw2097842579452301660:P:=p
theorem tw11420859499757501212:P:=p
theorem tw164458011333586812:P:=p
theorem tw2046408499041829532:P:=p
theorem tw13025043536483406492:P:=p
theorem tw14973341742667752188:P:=p
theorem tw18102996051787718332:P:=p
theorem tw1642699857888674389:P:=p
theorem tw13561640548676294005:P:=p
theorem tw9976806645014191477:P:=p
theorem tw1175705197859293205:P:=p
theorem tw17298492707032063797:P:=p
theorem tw15386141141150731733:P:=p
theorem tw15773885361914253045:P:=p
theorem tw12483484652809571221:P:=p
theorem tw3161702382658574165:P:=p
theorem tw15764967259862144149:P:=p
theorem tw11405758650888659253:P:=p
theorem tw6177818748807741397:P:=p
theorem tw3374456064889225333:P:=p
theorem tw17634488654345386549:P:=p
theorem tw8457277757536588341:P:=p
theorem tw8411218252606816469:P:=p
theorem tw2188251425376623326:P:=p
theorem tw5013709658634970366:P:=p
theorem tw11577463527545667550:P:=p
theorem tw14142859323331654494:P:=p
theorem tw16922044950223583742:P:=p
theorem tw5235679035534257662:P:=p
theorem tw8400138360967846174:P:=p
theorem tw4354097170664996798:P:=p
theorem tw10487071152240020798:P:=p
theorem tw4776588214759423070:P:=p
theorem tw1603211873451187646:P:=p
theorem tw9356793484524547063:P:=p
theorem tw9848664178138187767:P:=p
theorem tw15834587501357215159:P:=p
theorem tw9257504209827102423:P:=p
theorem tw8931771681401756823:P:=p
theorem tw11705385579306057527:P:=p
theorem tw2387491744072074039:P:=p
theorem tw4905966011664447735:P:=p
theorem tw8393277148856199703:P:=p
theorem tw10174246007824161463:P:=p
theorem tw6825978564493649879:P:=p
theorem tw831283060136907383:P:=p
theorem tw7643332563445163415:P:=p
theorem tw13665066374255689783:P:=p
theorem tw10422681157678748727:P:=p
theorem tw4576948684180841399:P:=p
theorem tw5763371852658460887:P:=p
theorem tw18246246513868584023:P:=p
theorem tw5127030363861926071:P:=p
theorem tw15697104077344059575:P:=p
theorem tw2368993854806720983:P:=p
theorem tw17033749558270573463:P:=p
theorem tw13114530408200198552:P:=p
theorem tw13986742885096999320:P:=p
theorem tw18088389551984947704:P:=p
theorem tw12071831289079889400:P:=p
theorem tw14781997697628618232:P:=p
theorem tw16207387416183185848:P:=p
theorem tw7211315111182607224:P:=p
theorem tw12860465095070249848:P:=p
theorem tw10206097276891183768:P:=p
theorem tw6679275021249500056:P:=p
theorem tw7417548243623771704:P:=p
theorem tw14998736083194607448:P:=p
theorem tw12804966800047896856:P:=p
theorem tw16345141835600462776:P:=p
theorem tw10559942900906638040:P:=p
theorem tw15056552033887611032:P:=p
theorem tw6264821761410576129:P:=p
theorem tw9517569948126749089:P:=p
theorem tw2722227426707816289:P:=p
theorem tw7386724999092174113:P:=p
theorem tw1606648132941312577:P:=p
theorem tw16441247864971742881:P:=p
theorem tw9299662385938225985:P:=p
theorem tw7667420920271770881:P:=p
theorem tw10278567936744678305:P:=p
theorem tw17726478135038740161:P:=p
theorem tw2238633552379220097:P:=p
theorem tw7833833095849941505:P:=p
theorem tw12852722757157391297:P:=p
theorem tw3450457944551973473:P:=p
theorem tw822881042305305985:P:=p
theorem tw16462943417108883489:P:=p
theorem tw10376318199172975937:P:=p
theorem tw12289036308494452033:P:=p
theorem tw7661181686220046650:P:=p
theorem tw15142503258249575738:P:=p
theorem tw4309789545232352346:P:=p
theorem tw15031255825633132282:P:=p
theorem tw1759135167015072282:P:=p
theorem tw17987100737906488506:P:=p
theorem tw10510554999643465626:P:=p
theorem tw8816704374067564090:P:=p
theorem tw16662297958694985050:P:=p
theorem tw13781310033089301498:P:=p
theorem tw7599449733346936602:P:=p
theorem tw7687783443499412922:P:=p
theorem tw17000864697532566970:P:=p
theorem tw13226117546254150522:P:=p
theorem tw14725282321814584922:P:=p
theorem tw5935392084393902106:P:=p
theorem tw9323378079188681402:P:=p
theorem tw14548148712703555706:P:=p
theorem tw14049335206777898106:P:=p
theorem tw3522059054440878138:P:=p
theorem tw7320863570060505946:P:=p
theorem tw2200010511140263866:P:=p
theorem tw16806349761580595130:P:=p
theorem tw13269662875084507651:P:=p
theorem tw15196004579355493251:P:=p
theorem tw134426388097243715:P:=p
theorem tw6150554957463247075:P:=p
theorem tw4363123122574222275:P:=p
theorem tw16517846794826794083:P:=p
theorem tw14065046056044948579:P:=p
theorem tw11489011211207548291:P:=p
theorem tw15434572475490110851:P:=p
theorem tw2243285455375741763:P:=p
theorem tw15823957801853275619:P:=p
theorem tw17383084144250398979:P:=p
theorem tw7880896416669231363:P:=p
theorem tw9259749434912327299:P:=p
theorem tw2155050493277792995:P:=p
theorem tw14711791382045072544:P:=p
theorem tw18172146979137921345:P:=p
theorem tw2042072480739613217:P:=p
theorem tw11392476379061658241:P:=p
theorem tw5174247504592557154:P:=p
theorem tw1932780726444542370:P:=p
theorem tw16808629090655982306:P:=p
theorem tw1378477528117676962:P:=p
theorem tw2990401890865493315:P:=p
theorem tw11916031437971166819:P:=p
theorem tw11328167924768945284:P:=p
theorem tw11854959312582839044:P:=p
theorem tw11132728107382285381:P:=p
theorem tw3568289374185494245:P:=p
theorem tw17795911923166299430:P:=p
theorem tw12188143893915339590:P:=p
theorem tw17717800924617838534:P:=p
theorem tw178285645276904103:P:=p
theorem tw13336428768199671495:P:=p
theorem tw1128412847570359015:P:=p
theorem tw11883832317481263079:P:=p
theorem tw14147460188350209032:P:=p
theorem tw9358875829974055304:P:=p
theorem tw328548352866831784:P:=p
theorem tw15023197585814812072:P:=p
theorem tw15709852676729932520:P:=p
theorem tw13992866088566778409:P:=p
theorem tw11016934545296065129:P:=p
theorem tw12372394457741576105:P:=p
theorem tw7839368325651142601:P:=p
theorem tw697090206990507338:P:=p
theorem tw2290734966706795850:P:=p
theorem tw14271852145003047306:P:=p
theorem tw7352184210835961963:P:=p
theorem tw6398556839224101163:P:=p
theorem tw2645238582020985227:P:=p
theorem tw9833759478245340556:P:=p
theorem tw6750955849019649644:P:=p
theorem tw11736803086785526508:P:=p
theorem tw10914264115143686892:P:=p
theorem tw6190686632408929709:P:=p
theorem tw637105055153761069:P:=p
theorem tw9860363978864756750:P:=p
theorem tw13868792567213636014:P:=p
theorem tw996473124320203278:P:=p
theorem tw6941234544400428974:P:=p
theorem tw3300805577845862831:P:=p
theorem tw18333005404981053967:P:=p
theorem tw10509631993460398448:P:=p
theorem tw10525104053143189008:P:=p
theorem tw7567647428304222192:P:=p
theorem tw12215796408595847633:P:=p
theorem tw6902150884036930225:P:=p
theorem tw13623398953799736273:P:=p
theorem tw11073149458729067505:P:=p
theorem tw14249397596603532594:P:=p
theorem tw9575091421807609490:P:=p
theorem tw2306798991149427731:P:=p
theorem tw4497217569665980595:P:=p
theorem tw3751420731927501427:P:=p
theorem tw5544778003297203187:P:=p
theorem tw1610448320511108596:P:=p
theorem tw9853855020401613428:P:=p
theorem tw964855303418050324:P:=p
theorem tw10116929135854328788:P:=p
theorem tw13513692095659364597:P:=p
theorem tw12892891474653211637:P:=p
theorem tw12725817004333978774:P:=p
theorem tw17967788511840077494:P:=p
theorem tw13007961395412749046:P:=p
theorem tw16884403917782616950:P:=p
theorem tw16448539000895350071:P:=p
theorem tw3063423409088750103:P:=p
theorem tw841566588377180951:P:=p
theorem tw3080927940169562136:P:=p
theorem tw4825314831300680216:P:=p
theorem tw5625747662134515288:P:=p
theorem tw9255717861264408568:P:=p
theorem tw6828362898063149497:P:=p
theorem tw10249415507806141626:P:=p
theorem tw11893901595993437786:P:=p
theorem tw15662001628435707898:P:=p
theorem tw7262420620103039003:P:=p
theorem tw1272792363411658203:P:=p
theorem tw1173641943892692923:P:=p
theorem tw8138949715128157404:P:=p
theorem tw10369678552421254173:P:=p
theorem tw5362564465833995997:P:=p
theorem tw12515499618473408862:P:=p
theorem tw17391709904543517118:P:=p
theorem tw3402432042014797407:P:=p
theorem tw9293950244825032383:P:=p
theorem tw13810517862205332191:P:=p
theorem tw10954586517203469295:P:=p
end
end lw
theorem lw:aiw.Holds:=by
 w_on
 o_law
 k_head
 case hw=>w_witness2
 intro w Bd s mg mb fa args vals G Y hg mW hpre jc;refine agP ?F rfl rfl w s _ _ _ mg mb fa args vals G.T (by decide +kernel) (km_in_of Y) (λP hP=>km_tabs_of Y P (by revert P;decide +kernel)) hg mW hpre jc;exact ⟨λP=>by kernel_rfl,λP=>by kernel_rfl,λP=>by kernel_rfl,λP=>by kernel_rfl,λP=>by kernel_rfl,λP=>by kernel_rfl,λP=>by kernel_rfl,λP=>by kernel_rfl,
  λP=>by kernel_rfl,λP=>by kernel_rfl,λP=>by kernel_rfl,λP=>by kernel_rfl,λP=>by kernel_rfl,λP=>by kernel_rfl,λP=>by kernel_rfl,λP=>by kernel_rfl⟩
set_option Elab.async false
end Mine.Internal
theorem PySem.Challenge.cw_np0210_01_holds : PySem.Challenge.rw_np0210_01.Holds := by
  exact Mine.Internal.lw
