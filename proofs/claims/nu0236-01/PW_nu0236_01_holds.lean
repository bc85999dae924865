import PyProof.Rows.All
import PySem.Eval
import Wide.All
import OpenK.AllK
import Wide.FinOn
import KE.KDictLaws
import Flt.Ops
import KE.LcSums
import KE.KDictOf
import KE.KSortTup
import KE.KDictSum
import KE.KEqDict
import PyProof.AttrMissHeap
import KE.KLam
import KE.KSortKey
import KE.KNestM
import Lean
import PySem.Challenge.RW_nu0236_01
set_option tactic.hygienic false
set_option bootstrap.genMatcherCode false
set_option genInjectivity false
set_option genSizeOf false
set_option backward.eqns.nonrecursive false
set_option maxRecDepth 100000
set_option linter.unusedVariables false
set_option linter.unusedSectionVars false
open Nat renaming le_trans->a_,lt_of_le_of_lt->c_,le_add_left->df,add_le_add_left->d7,le_add_right->eh,lt_of_lt_of_le->ej,le_of_lt->eB,le_refl->eK,le_of_lt_succ->eY,add_comm->eZ,succ_le_succ->fi,zero_le->fA,succ_pos->fC,lt_of_lt_of_eq->fD,lt_succ_self->fJ,add_assoc->fK,add_le_add->fQ,le_succ_of_le->f5,lt_add_of_pos_right->gm,le_of_eq->gy,add_le_add_right->gB,lt_trans->gH,le_of_succ_le_succ->gL,mul_le_mul_left->gT,add_right_comm->g5,min_le_left->g9,add_sub_cancel_left->ij,le_antisymm->iw,zero_add->i4,sub_pos_of_lt->i5,not_lt->i6,lt_one_iff->i7,sub_lt_sub_left->i8,casesOn->ja,le_of_ble_eq_true->jf,lt_irrefl->jm,lt_succ_of_lt->jt,sub_self->jE,sub_le->jS,min_eq_left->j5,sub_le_of_le_add->j',one_pos->j_,lt_or_ge->ke,sub_lt->kh,le_of_not_lt->mS,lt_of_le_of_ne->nu,le_mul_of_pos_left->nv,le_of_sub_eq_zero->nK,eq_of_beq_eq_true->nL,succ_le_of_lt->nW,le_of_succ_le->nX,succ_lt_succ->oC,ne_of_gt->oD,not_lt_zero->pd,sub_add_cancel->pg,exists_eq_add_of_le->pG,lt_of_succ_lt->pN,lt_of_add_right_lt->pO,le_add_right_of_le->pP,min_le_right->qi,add_lt_add_right->qF,add_sub_cancel'->rz,add_lt_add_left->rA,ne_of_lt->rC,succ->rY,ble->sW,succ_ne_zero->t7,min_eq_right->t8,sub_eq_zero_iff_le->uq,le_total->ur,sub_eq_zero_of_le->vE,le_succ->v5,not_le->ya,lt_trichotomy->zz,lt_of_le_pred->zA,max_eq_right->Ad,lt_add_right->Ae,max_eq_left->BP,sub_one_sub_lt_of_lt->EH,lt_succ_iff_lt_or_eq->EI,min_self->GZ,beq->G0,add_le_of_le_sub'->Ic,sub_succ_lt_self->Jw,not_succ_le_zero->Jx,not_succ_le_self->Jy,rec->N7,lt_succ_of_le->N8,lt_of_sub_pos->N9,succ_ne_self->OE,sub_add_comm->OF,zero_lt_one->Qk,sub_add_eq->Q3,succ_inj->S8,mul_succ->S9,max_zero->S',sub_sub->UU,one_mul->UW,mod_lt->Vq
open List renaming length_map->bb,length_append->bh,map_append->b_,mem_map->ck,getElem?_eq_getElem->dj,mem_singleton->dt,getD_eq_getElem?_getD->ec,getElem?_map->ed,not_mem_nil->eg,casesOn->el,map_map->ew,getElem?_eq_some_iff->ey,length_drop->eA,append_assoc->eE,mem_append->eG,nodup_nil->eH,map_cons->eI,mem_cons->eL,lookup_cons->eN,getElem?_append_left->eO,nodup_append->eQ,range->eR,append_nil->eT,nodup_cons->eU,mem_range->eV,mem_iff_getElem?->e_,length_cons->ff,length_range->fg,mem_of_getElem?->fj,length->fk,getElem?_append_right->fm,map_congr_left->fo,mem_map_of_mem->fF,getElem_mem->fP,drop_eq_getElem_cons->fR,mem_append_left->fS,length_take->fT,mem_append_right->fU,exists_cons_of_ne_nil->gh,pairwise_map->gk,replicate->gn,mem_filter->gC,length_set->gK,lookup_eq_some_iff->gV,length_eq_zero_iff->gW,drop_drop->ip,getElem?_eq_none_iff->ix,getElem?_eq_none->iC,getElem?_set_ne->iM,cons_append->iN,getElem?_inj->iX,foldl_append->iY,flatMap_cons->iZ,drop_left->i0,exists_mem_of_ne_nil->jc,length_singleton->je,pairwise_cons->jg,find?_eq_none->jh,toArray->jl,map_eq_nil_iff->jx,getElem?_range->jy,filter_eq_self->jz,getElem?_concat_length->jC,filter_eq_nil_iff->jD,sum_cons->jF,cons_prefix_cons->jT,size_toArray->j6,flatMap_append->k9,mem_flatMap->mK,filter_cons_of_pos->mL,filter_cons_of_neg->mM,all_eq_true->mN,find?_eq_some_iff_append->m_,take_of_length_le->ni,append_of_mem->nj,reverse_cons->nM,getElem?_set->nN,any_eq_false->nO,perm_ext_iff_of_nodup->oi,lt_irrefl->oj,drop_length->ox,cons_ne_nil->oy,any_eq_true->oz,pairwise_iff_getElem->oE,length_pos_iff->oN,map_drop->oX,mem_mapIdx->pb,zip_cons_cons->pe,getElem?_drop->pf,lookup->ph,countP_cons_of_pos->pj,map_nil->pH,drop_eq_nil_of_le->pI,length_replicate->p3,map_reverse->qd,isEmpty_iff->qe,map_take->qj,mem_of_mem_take->qx,sum_append->qK,length_nil->qL,forIn_cons->qM,find?_cons->qN,getElem_of_mem->qT,filterMap_cons->qU,ne_nil_of_mem->rI,drop_zero->rJ,mem_of_find?_eq_some->so,map_inj_left->sx,ext_getElem?->sy,pairwise_mergeSort->tN,getElem?_replicate->tO,getElem?_cons_zero->tP,getElem?_cons_succ->tQ,countP_cons_of_neg->tR,range_succ_eq_map->uj,nil_prefix->uu,filter_map->uw,pairwise_and_iff->vb,mem_of_mem_drop->vJ,forall_mem_cons->vK,filterMap->vL,drop->v7,replicate_succ->wI,mergeSort_perm->wJ,prefix_append->xX,map_replicate->xY,length_mapIdx->xZ,filter_append->x5,prefix_of_prefix_length_le->zB,getElem_map->zN,flatMap_nil->zO,eq_nil_iff_forall_not_mem->zP,nil_append->BE,find?_some->BF,foldr_map->Ca,drop_take->Cb,getElem?_take_of_lt->EC,head_eq_of_cons_eq->EJ,all_eq_not_any_not->EK,set_set->GJ,map_set->GK,getElem?_set_self->GL,find?_cons_of_pos->GN,find?_cons_of_neg->GO,drop_of_length_le->GP,take_append_drop->G1,length_filter_le->G2,eq_replicate_iff->G3,dropLast_eq_take->G4,cons_lt_cons_iff->G5,map_id->Ie,getElem?_mapIdx->Ig,forall_mem_nil->Jz,mapIdx_concat->KW,findIdx?_cons->KX,filterMap_map->KY,take_add_one->Ld,flatten_cons->Le,find?_isSome->Lf,take_length->N_,nil_sublist->Oa,map_snd_zip->Ob,le_antisymm->Oc,isEmpty_nil->Od,flatMap_map->Oe,cons->Of,append_inj'->Og,not_lt_nil->OG,length_zip->OH,take_left->Ql,foldl_nil->Qm,take_nil->Q4,le_trans->Q5,le_total->Q6,not_lt->S_,filter->Ta,foldl->UX,take->Vr,getD->Vs
open PySem renaming wpAny_bind->b5,wpAny_pure->dk,wpAny_mono->er,Value->eJ,Shared->eM,wpAny_holding->f7,wpAny->gf,Expr->gg,Addr->g0,model->hX,mainGlobals->iI,valueAt->jb,Around->ji,builtinsNs->j3,Str->j9,wpAny_newObj_type->k8,wpAny_standAt->mR,wpAny_call_entry->nq,starEach->nr,call->nF,sizeLine_eq->nG,wpAny_rule->nI,wpAny_ite_false->nY,wpAny_truthy_bool->ow,intKind_is->pM,wpAny_callSpecial?_slot->pW,DictEntry->pX,wpAny_forIn_list->qR,compareOp->qS,swappedStores->rt,assignInOrder->ru,wpAny_specialOf->rU,letOwnedTupleGo->rV,wpAny_typeOf->sr,codeAny->sv,wpAny_seqItems->sX,typeLookup->sY,compTurn->sZ,backTo->s_,wpAny_sequenceKey->uc,wpAny_field->ud,slot_list_setitem->ue,sliceBounds->uf,getMethod_builtin->ug,wpAny_getItem_list_slice->uk,Comprehension->uo,swapsWith->vB,cLine->vC,NameKind->vD,newEnv->vV,eval->vW,call_meets->vX,Heap->vY,Builtin->vZ,wpAny_notOrdered_dict->wN,sizeLine->x9,assign->x_,holding->yT,getItem->yU,codeAmong->yV,Env->yX,Arguments->y4,Stmt->zw,wpAny_newList->zM,wpAny_tupleItemsOf->z9,sysModules->z_,isTrue->Aa,assignEach->Ab,wpAny_pyIter_list->BK,callWith->BL,numAt->Er,Scope->Es,Pos->Eu,CmpOp->Ez,wpAny_execs_nil->EF,truthy->EG,standAt->GD,setItem->GF,Program->GH,wpAny_listPart->GS,newFunctionEnv->GU,dictSetDefault->GV,constantsAlone->GW,closureFor->GX,FuncData->GY,wpAny_UnaryOp->Jr,evalPart_none->Js,behindInMarks->Jt,slicePick->KR,wpAny_Assign_Subscript->K4,rawInt->K5,dictSet->K6,call_meetsIn->K7,bootBuiltins->K8,IsPart->Lb,isSubtype_tuple_tuple->N4,Sem->N5,wpAny_Slice->Oz,keywordEach->OA,wpAny_call->QU,wpAny_assign_Tuple->QV,wpAny_Constant_int->QW,reduceHash->QX,pyIter->QY,getattributeRaised->QZ,entry_list_setitem->Q0,wpAny_isNot_plain->R_,wpAny_dictFind_of->Sa,wpAny_collect_seq->Sb,wpAny_builtinsFor->Sd,wpAny_assign_Name->Se,spliced->Sf,slot_list_getitem->Sg,slot_dict_setitem->Sh,foldedSetIterable->Si,atKey->Sj,args_list_setitem->Sk,wpAny_isInstance->SM,wpAny_askSetting->SN,storeName->SP,seqIndex?->SQ,noteFrame->SR,noFill_tuple_add->SV,getMethod->SW,args_list_append->SX,TriplesOk->S3,theTreesLotGoes->UA,codeAny_builtin->UB,Fin->UC,wpAny_newTuple->Vc,wpAny_loadPart->Vd,wpAny_is_plain->Ve,pyNext->Vf,methodCallForm->Vg,keeperOf->Vh,bindName->Vi,backToKw->Vj,BoolOp->Vm,swapsWithSole->Wf,seq_tuple_add->Wg,plainId_quiet->Wh,methodCallPos->Wi,comprehension->Wj,attributeBase->Wk,wpAny_lt_int->WO,relabel->WQ,newList->WR,intKind->WS,concat_meets->WT,argBest->WU,OsState->WZ,Keyword->W0,wpAny_of_eq->Y0,wpAny_nsGet->Y1,wpAny_noted->Y2,wpAny_letGo->Y3,wpAny_alloc->Y4,again->Y5,World->Y6,Reads->Y9,typeIs_int->Zb,sliceRange->Zc,nsFind->Zd,isInstance->Ze,checkCount->Zf,cellOf->Zg,Obj->Zi
open Option.some renaming inj->d5,injEq->jO
open Option renaming casesOn->d_,map_eq_some_iff->fX,bind_eq_some_iff->jn,map_some->jY,isNone_iff_eq_none->BO,map_eq_none_iff->EB,isNone_none->Ib,isSome_map->Jv,getD_none->KV,ctorIdx->N6
open Array renaming length_toList->eD,getElem?_toList->gG,getElem?_eq_getElem->oB,toList_append->oG,toList_push->sq,isEmpty->wK,getElem?_eq_none->EM,forIn_toList->JB,any_toList->Lj
open Bool renaming and_eq_true->eW,not_eq_true'->fN,false_eq_true->fY,false_ne_true->gO,not_eq_false'->jP,or_eq_true->j4,casesOn->j7,not_eq_true->mP,eq_false_iff->nP,and_eq_true_iff->qA,not_true->wU,eq_iff_iff->BH,and_false->Qp,false_or->Q7,and_true->Q8
open PySem.Heap renaming get?_push_size->eX,get?_push_of_some->fq,SameBut->iJ,get?_update_self->nH,lt_size->rv,size_push->rH,ExtBut->S4
open List.cons renaming inj->ft,injEq->iA
open PySem.NameKind renaming free->fE,cell->f9,casesOn->Ia
open PySem.Obj renaming mapSeq->fL,data_mapDictKeys->Ju,isFreed_of_dict->KU,data_mapDict->OC
open PySem.Challenge renaming rw_nu0236_01->fV
open Classical renaming byContradiction->gj,propDecidable->Xb,not_not->Xc
open PyProof.Rows renaming seqObj->gw,listUpdate_at->rx,get?_update_seq->rX,slot_tuple_getitem->Ac,neg_int->BD,seqEpoch_at->EA,IntsAre->GI,listItems_at->Lc,truthy_int->UN,lt_int->UO,le_int->UP,gt_int->UQ,ge_int->UR,entry_list_sort->US,assign_Name->UT,slot_list_sort->Vn,slicePart_none->Vo,failedOf->Vp,spliced_none->W4,spliced_more->W5,plain_sorted->W6,entry_sorted->W7,Assign_Tuple->W8,kind_sorted->Y',importsNone->Y_,isTrue_and->Zv
open Int renaming natCast_nonneg->gF,ofNat_le->gU,ofNat_lt->ib,le_trans->jG,sub_add_cancel->nx,not_lt->ny,not_lt_of_ge->oF,ediv_one->pQ,toNat->qk,max_eq_right->qm,add_sub_cancel->rZ,eq_ofNat_of_zero_le->t9,le_antisymm->vd,sub_nonneg_of_le->v8,le_refl->v9,lt_irrefl->x6,lt_of_le_of_lt->yc,lt_trans->zC,le_of_lt->zD,neg_neg->BG,ofNat_natAbs_of_nonpos->De,not_le->Df,toNat_sub->EL,add_comm->G6,sub_neg->JA,toNat_le_toNat->Lg,natAbs->Lh,lt_of_lt_of_le->Li,toNat_eq_zero->Oh,natAbs_sub_le->Oi,ofNat->OI,lt_of_not_ge->OJ,min_eq_left->Qn,max_eq_left->Qo,ofNat_sub->Sn,le_natAbs->So,mul_comm->Tb,lt_toNat->Tc,le_total->Td,le_of_eq->Te,add_zero->Tf,one_mul->U1
open PySem.Heap.SameBut renaming update->gM
open PySem.Builtin.Range renaming rangeSize->iz,rangeFitsLong->wH,small->BC
open ForInStep renaming yield->iU
open PySem.Str renaming ofString->i3
open PySem.Value renaming none->jr,casesOn->qc,isStr->qf,type->wO,builtin->C_,noConfusion->KS,ref->La
open Prod.mk renaming inj->l_,injEq->BM
open List.Pairwise renaming imp->mO,imp_of_mem->yb,map->Cd
open PySem.PyData renaming eqv->mZ,keyHash->pF,depthAll->qr,eqvAll->sm,canLayAll0->xV,depth->Et,strOk->Qh
open PySem.W.Looks renaming of_pure->nB
open PySem.Builtin.Slice renaming slicePlaces->nC,sliceAdjust->qh,sliceApplied->wR,slicePartIndex->S6,sliceFields->S7
open Ne renaming symm->nD
open PySem.Builtin.Tuple renaming tupleExact->nJ,tupleHashOf->qg,tupleItemsOf->wQ,tupleIsExact->S5
open Function renaming comp->oA
open PySem.Builtin.List renaming listSubscript?->pY,listTooLong->yY,listSameRef->yZ,listUpdate->UD,listItems->UE,listFitsIndex->UG,listAllItems->UH
open PySem.W renaming dictOf->rB,findIn->ta,instObj->uh,emptyDict->yW,Frag->zv,tabObj->K9,hideAll->K_,kat_snds->OB,getL->Q1,kas_ask->Sl,specialIn->SY,plainOver->S1,hasDictIn->S2,keepIn->Vk,Ground->Vl,takesIn->WV,takerIn->WW,putName_dict->WX,putL->WY,codeHd_of_K->Y7,callWith_of->Y8,lookIn->Zh
open List.Perm renaming eq_of_pairwise->rD,append_left->Cc,trans->Ih,of_eq->W9,map->W',flatMap_right->W_,append_right->Xa
open Int.ofNat renaming inj->rE
open Eq renaming symm->rK
open PySem.F renaming slot_list_append->rW,slot_tuple_hash->tM,slot_list_getattribute->tY,slot_dict_get->tZ,slot_dict_setdefault->zx,entry_list_append->BB,plainAttrs_list->B',plainAttrs_dict->B_,entry_dict_get->Dd,slot_tuple_lt->Ex,slot_list_pop->Ey,args_tuple_add_2->OD,entry_tuple_add->Qi,slot_tuple_add->Q2,slot_int_rmul->Sm,type_list_pop->Zj,type_list_append->Zk,type_dict_setdefault->Zl,type_dict_get->Zm,entry_tuple_lt->Zn,entry_list_pop->Zo,entry_dict_setdefault->Zp,args_tuple_lt_2->Zq,args_list_pop_1->Zr,args_dict_setdefault_3->Zs,args_dict_get_3->Zt,args_dict_get_2->Zu
open PySem.Heap.IsSliceOf renaming new->tL
open PySem.Expr renaming casesOn->ui
open PySem.AutoListH renaming list_append_list_val_0->v3,list___mul___list_int_3->W3
open PySem.Keeper renaming boundFrame->xW,machine->BA,frame->Ew
open Prod renaming fst->y6,ext->Qj
open PySem.Builtin.Dict renaming updateFrom->zy,selfAndRest->UI,pairItems->UJ,notOrdered->UK,keyAndDefault->UL,addKeywords->UM
open List.Sublist renaming cons_cons->zQ,map->UY,cons->UZ,append_left->U0
open PUnit renaming unit->BN
namespace Mine
universe u
@[elab_as_elim] theorem Wl {c:Sort u} {a b:c} {P:c->Prop} (h:a=b) (m:P b):P a:=h▸m
@[elab_as_elim] theorem Wm {c:Sort u} {a b:c} {P:c->Prop} (h:b=a) (m:P b):P a:=h▸m
variable {z ai aF:Prop}
theorem iP (h:z/\ai) (k:z->ai->aF):aF:=by
 rcases h with ⟨a,b⟩;exact k a b
variable {h:Type} {dm:h->Prop}
theorem kf (c:∃a:h,dm a) (k:∀a,dm a->z):z:=by
 rcases c with ⟨a,b⟩;exact k a b
variable {v:Type} {dA:h->v} {dB:v->Prop}
@[elab_as_elim] theorem r5 (b:v) (c:∃a:h,b=dA a) (k:∀a,dB (dA a)):dB b:=by
 rcases c with ⟨a,rfl⟩;exact k a
variable {dn:h}
@[elab_as_elim] theorem Qq (a:h) (c:a=dn/\z) (k:z->dm dn):dm a:=by
 rcases c with ⟨rfl,b⟩;exact k b
variable {dW:v} {dp:h->v->Prop}
@[elab_as_elim] theorem KZ (b:h) (a:v) (c:b=dn/\a=dW) (k:dp dn dW):dp b a:=by
 rcases c with ⟨rfl,rfl⟩;exact k
variable {aS:Prop}
theorem mT (h:z/\ai/\aF) (k:z->ai->aF->aS):aS:=by
 rcases h with ⟨a,b,c⟩;exact k a b c
variable {dz:h->Prop}
theorem eS (d:∃a:h,dm a/\dz a) (k:∀a,dm a->dz a->z):z:=by
 rcases d with ⟨a,b,c⟩;exact k a b c
@[elab_as_elim] theorem iQ (b:v) (d:∃a:h,dm a/\dA a=b) (k:∀a,dm a->dB (dA a)):dB b:=by
 rcases d with ⟨a,c,rfl⟩;exact k a c
@[elab_as_elim] theorem Lk (b:v) (d:∃a:h,dm a/\b=dA a) (k:∀a,dm a->dB (dA a)):dB b:=by
 rcases d with ⟨a,c,rfl⟩;exact k a c
@[elab_as_elim] theorem jo (b:v) (d:∃a:h,b=dA a/\dm a) (k:∀a,dm a->dB (dA a)):dB b:=by
 rcases d with ⟨a,rfl,c⟩;exact k a c
theorem Cf (d:z/\∃a:h,∃b:v,dp a b) (k:z->∀a,∀b,dp a b->ai):ai:=by
 rcases d with ⟨c,a,b,e⟩;exact k c a b e
variable {dF:h->Prop}
theorem gi (d:∃a:h,dm a/\dz a/\dF a) (k:∀a,dm a->dz a->dF a->z):z:=by
 rcases d with ⟨a,b,c,e⟩;exact k a b c e
variable {du:h->v->Prop}
theorem i_ (d:∃b:h,∃a:v,dp b a/\du b a) (k:∀b,∀a,dp b a->du b a->z):z:=by
 rcases d with ⟨b,a,c,e⟩;exact k b a c e
variable {dD:h->v->Prop}
theorem jU (f:∃a:h,∃b:v,dp a b/\du a b/\dD a b) (k:∀a,∀b,dp a b->du a b->dD a b->z):z:=by
 rcases f with ⟨a,b,c,e,d⟩;exact k a b c e d
variable {a9:Type} {dJ:h->v->a9} {dK:a9->Prop}
@[elab_as_elim] theorem v_ (c:a9) (f:∃a:h,∃b:v,c=dJ a b/\dp a b/\du a b) (k:∀a,∀b,dp a b->du a b->dK (dJ a b)):dK c:=by
 rcases f with ⟨a,b,rfl,e,d⟩;exact k a b e d
theorem Ii (g:z/\ai/\∃a:h,dm a/\dz a/\dF a) (k:z->ai->∀a,dm a->dz a->dF a->aF):aF:=by
 rcases g with ⟨d,b,a,f,c,e⟩;exact k d b a f c e
theorem oO (g:z/\ai/\∃b:h,∃a:v,dp b a/\du b a) (k:z->ai->∀b,∀a,dp b a->du b a->aF):aF:=by
 rcases g with ⟨e,c,b,a,d,f⟩;exact k e c b a d f
variable {dI:h->v->Prop}
theorem nZ (g:∃a:h,∃b:v,dp a b/\du a b/\dD a b/\dI a b) (k:∀a,∀b,dp a b->du a b->dD a b->dI a b->z):z:=by
 rcases g with ⟨a,b,c,f,d,e⟩;exact k a b c f d e
variable {dQ:h->v->Prop}
theorem gv (i:∃a:h,∃b:v,dp a b/\du a b/\dD a b/\dI a b/\dQ a b) (k:∀a,∀b,dp a b->du a b->dD a b->dI a b->dQ a b->z):z:=by
 rcases i with ⟨a,b,c,g,e,f,d⟩;exact k a b c g e f d
variable {aA:Type} {dM:h->v->a9->aA} {dw dC dG:h->v->a9->Prop} {dN:aA->Prop}
@[elab_as_elim] theorem g6 (d:aA) (i:∃b:h,∃c:v,∃a:a9,d=dM b c a/\dw b c a/\dC b c a/\dG b c a) (k:∀b,∀c,∀a,dw b c a->dC b c a->dG b c a->dN (dM b c a)):dN d:=by
 rcases i with ⟨b,c,a,rfl,f,g,e⟩;exact k b c a f g e
variable {ba bl bA:Prop}
theorem OK (h:z/\ai/\aF/\aS/\ba/\bl) (k:z->ai->aF->aS->ba->bl->bA):bA:=by
 rcases h with ⟨d,a,b,f,c,e⟩;exact k d a b f c e
variable {bY:Prop}
theorem Af (h:z/\ai/\aF/\aS/\ba/\bl/\bA) (k:z->ai->aF->aS->ba->bl->bA->bY):bY:=by
 rcases h with ⟨e,a,b,g,d,f,c⟩;exact k e a b g d f c
theorem Cg {G:Prop} (h:z/\ai/\aF/\aS/\ba/\bl/\bA/\bY) (k:z->ai->aF->aS->ba->bl->bA->bY->G):G:=by
 rcases h with ⟨f,a,b,i,d,g,c,e⟩;exact k f a b i d g c e
theorem Dg {c:Prop} {b:Prop} {a:Prop} {G:Prop} (h:z/\ai/\aF/\aS/\ba/\bl/\bA/\bY/\c/\b/\a) (k:z->ai->aF->aS->ba->bl->bA->bY->c->b->a->G):G:=by
 rcases h with ⟨n,d,j,p,m,g,l,e,f,o,i⟩;exact k n d j p m g l e f o i
@[elab_as_elim] theorem G7 (a:h) (e:z/\ai/\aF/\aS/\ba/\bl/\bA/\bY/\a=dn) (k:z->ai->aF->aS->ba->bl->bA->bY->dm dn):dm a:=by
 rcases e with ⟨i,b,c,l,f,j,d,g,rfl⟩;exact k i b c l f j d g
@[elab_as_elim] theorem y7 (c:a9) (e:z/\ai/\aF/\aS/\ba/\bl/\bA/\∃b:h,∃a:v,c=dJ b a) (k:z->ai->aF->aS->ba->bl->bA->∀b,∀a,dK (dJ b a)):dK c:=by
 rcases e with ⟨l,d,g,m,j,f,i,b,a,rfl⟩;exact k l d g m j f i b a
theorem Ll (f:z/\ai/\aF/\∃a:h,dm a) (k:z->ai->aF->∀a,dm a->aS):aS:=by
 rcases f with ⟨e,b,c,a,d⟩;exact k e b c a d
theorem Lm (i:z/\∃a:h,dm a/\dz a/\dF a/\∃b:v,dp a b) (k:z->∀a,dm a->dz a->dF a->∀b,dp a b->ai):ai:=by
 rcases i with ⟨f,a,c,g,e,b,d⟩;exact k f a c g e b d
theorem Q9 (f:z/\∃c:h,∃b:v,∃a:a9,dw c b a) (k:z->∀c,∀b,∀a,dw c b a->ai):ai:=by
 rcases f with ⟨e,c,b,a,d⟩;exact k e c b a d
@[elab_as_elim] theorem Tg (b:v) (e:z/\∃a:h,b=dA a/\dm a) (k:z->∀a,dm a->dB (dA a)):dB b:=by
 rcases e with ⟨c,a,rfl,d⟩;exact k c a d
theorem OL (g:∃a:h,dm a/\dz a/\dF a/\∃b:v,dp a b) (k:∀a,dm a->dz a->dF a->∀b,dp a b->z):z:=by
 rcases g with ⟨a,c,d,f,b,e⟩;exact k a c d f b e
theorem Ij (d:∃c:h,∃a:v,∃b:a9,dw c a b) (k:∀c,∀a,∀b,dw c a b->z):z:=by
 rcases d with ⟨c,a,b,e⟩;exact k c a b e
variable {dH:h->v->a9->aA->Prop}
theorem G8 (f:∃c:h,∃d:v,∃b:a9,∃a:aA,dH c d b a) (k:∀c,∀d,∀b,∀a,dH c d b a->z):z:=by
 rcases f with ⟨c,d,b,a,e⟩;exact k c d b a e
variable {aZ:Type} {dO:h->v->a9->aA->aZ->Prop}
theorem zR (g:∃c:h,∃e:v,∃d:a9,∃a:aA,∃b:aZ,dO c e d a b) (k:∀c,∀e,∀d,∀a,∀b,dO c e d a b->z):z:=by
 rcases g with ⟨c,e,d,a,b,f⟩;exact k c e d a b f
variable {bZ:Type}
theorem EN {g:h->v->a9->aA->aZ->bZ->Prop} (j:∃d:h,∃f:v,∃c:a9,∃a:aA,∃b:aZ,∃e:bZ,g d f c a b e) (k:∀d,∀f,∀c,∀a,∀b,∀e,g d f c a b e->z):z:=by
 rcases j with ⟨d,f,c,a,b,e,i⟩;exact k d f c a b e i
theorem JC {i:Type} {j:h->v->a9->aA->aZ->bZ->i->Prop} (m:∃d:h,∃f:v,∃e:a9,∃a:aA,∃b:aZ,∃c:bZ,∃g:i,j d f e a b c g) (k:∀d,∀f,∀e,∀a,∀b,∀c,∀g,j d f e a b c g->z):z:=by
 rcases m with ⟨d,f,e,a,b,c,g,l⟩;exact k d f e a b c g l
@[elab_as_elim] theorem Q_ (d:aA) (f:∃b:h,∃c:v,∃a:a9,d=dM b c a/\dw b c a) (k:∀b,∀c,∀a,dw b c a->dN (dM b c a)):dN d:=by
 rcases f with ⟨b,c,a,rfl,e⟩;exact k b c a e
theorem Dh (d:z) (a:ai) (b:aF) (e:aS) (c:ba):z/\ai/\aF/\aS/\ba:=⟨d,a,b,e,c⟩
theorem ux (e:z) (a:ai) (b:aF) (g:aS) (d:ba) (f:bl) (c:bA):z/\ai/\aF/\aS/\ba/\bl/\bA:=⟨e,a,b,g,d,f,c⟩
theorem Ci (e:z) (a:ai) (b:aF) (h:aS) (d:ba) (g:bl) (c:bA) (f:bY):z/\ai/\aF/\aS/\ba/\bl/\bA/\bY:=⟨e,a,b,h,d,g,c,f⟩
theorem Ln (e:z) (c:h) (b:v) (a:a9) (d:dw c b a):z/\∃c:h,∃b:v,∃a:a9,dw c b a:=⟨e,c,b,a,d⟩
theorem OM (b:h) (a:v) (c:dp b a):∃b:h,∃a:v,dp b a:=⟨b,a,c⟩
theorem Di (c:h) (d:v) (b:a9) (a:aA) (e:dH c d b a):∃c:h,∃d:v,∃b:a9,∃a:aA,dH c d b a:=⟨c,d,b,a,e⟩
theorem uy {g:h->v->a9->aA->aZ->bZ->Prop} (d:h) (f:v) (c:a9) (a:aA) (b:aZ) (e:bZ) (i:g d f c a b e):∃d:h,∃f:v,∃c:a9,∃a:aA,∃b:aZ,∃e:bZ,g d f c a b e:=⟨d,f,c,a,b,e,i⟩
theorem oq (a:h) (b:dm a):∃a:h,dm a:=⟨a,b⟩
theorem iD (a:z) (b:ai) (c:aF):z/\ai/\aF:=⟨a,b,c⟩
theorem ei (a:h) (b:dm a) (c:dz a):∃a:h,dm a/\dz a:=⟨a,b,c⟩
theorem uz (a:z) (b:ai) (c:aF) (d:aS):z/\ai/\aF/\aS:=⟨a,b,c,d⟩
theorem tT (b:z) (a:h) (c:dm a) (d:dz a):z/\∃a:h,dm a/\dz a:=⟨b,a,c,d⟩
theorem gp (a:h) (b:dm a) (c:dz a) (d:dF a):∃a:h,dm a/\dz a/\dF a:=⟨a,b,c,d⟩
theorem nE (b:h) (a:v) (c:dp b a) (d:du b a):∃b:h,∃a:v,dp b a/\du b a:=⟨b,a,c,d⟩
theorem qC (c:h) (a:v) (b:a9) (d:dw c a b):∃c:h,∃a:v,∃b:a9,dw c a b:=⟨c,a,b,d⟩
theorem qV (e:z) (c:ai) (b:h) (a:v) (d:dp b a):z/\ai/\∃b:h,∃a:v,dp b a:=⟨e,c,b,a,d⟩
theorem Dj (d:z) (b:h) (a:v) (e:dp b a) (c:du b a):z/\∃b:h,∃a:v,dp b a/\du b a:=⟨d,b,a,e,c⟩
variable {dR:h->Prop}
theorem qW (a:h) (b:dm a) (c:dz a) (e:dF a) (d:dR a):∃a:h,dm a/\dz a/\dF a/\dR a:=⟨a,b,c,e,d⟩
theorem tc (a:h) (c:dm a) (d:dz a) (b:v) (e:dp a b):∃a:h,dm a/\dz a/\∃b:v,dp a b:=⟨a,c,d,b,e⟩
theorem Dk (a:h) (c:dm a) (b:v) (e:dp a b) (d:du a b):∃a:h,dm a/\∃b:v,dp a b/\du a b:=⟨a,c,b,e,d⟩
theorem mU (a:h) (b:v) (c:dp a b) (e:du a b) (d:dD a b):∃a:h,∃b:v,dp a b/\du a b/\dD a b:=⟨a,b,c,e,d⟩
theorem wV (e:z) (c:ai) (d:aF) (a:h) (b:v) (f:dp a b):z/\ai/\aF/\∃a:h,∃b:v,dp a b:=⟨e,c,d,a,b,f⟩
theorem rL (e:z) (c:ai) (b:h) (a:v) (d:dp b a) (f:du b a):z/\ai/\∃b:h,∃a:v,dp b a/\du b a:=⟨e,c,b,a,d,f⟩
theorem ve (e:z) (d:ai) (c:h) (a:v) (b:a9) (f:dw c a b):z/\ai/\∃c:h,∃a:v,∃b:a9,dw c a b:=⟨e,d,c,a,b,f⟩
theorem wW (d:z) (a:h) (b:dm a) (f:dz a) (c:dF a) (e:dR a):z/\∃a:h,dm a/\dz a/\dF a/\dR a:=⟨d,a,b,f,c,e⟩
theorem n0 (d:z) (b:h) (a:v) (f:dp b a) (c:du b a) (e:dD b a):z/\∃b:h,∃a:v,dp b a/\du b a/\dD b a:=⟨d,b,a,f,c,e⟩
theorem Dl (e:z) (c:h) (b:v) (a:a9) (d:dw c b a) (f:dC c b a):z/\∃c:h,∃b:v,∃a:a9,dw c b a/\dC c b a:=⟨e,c,b,a,d,f⟩
theorem pk (a:h) (b:v) (c:dp a b) (f:du a b) (d:dD a b) (e:dI a b):∃a:h,∃b:v,dp a b/\du a b/\dD a b/\dI a b:=⟨a,b,c,f,d,e⟩
theorem uA (g:z) (e:ai) (c:h) (a:v) (b:a9) (d:aA) (f:dH c a b d):z/\ai/\∃c:h,∃a:v,∃b:a9,∃d:aA,dH c a b d:=⟨g,e,c,a,b,d,f⟩
variable {dS:h->v->a9->aA->Prop}
theorem wX (f:z) (d:h) (c:v) (a:a9) (b:aA) (g:dH d c a b) (e:dS d c a b):z/\∃d:h,∃c:v,∃a:a9,∃b:aA,dH d c a b/\dS d c a b:=⟨f,d,c,a,b,g,e⟩
theorem EO (g:z) (e:h) (c:v) (a:a9) (b:aA) (d:aZ) (f:dO e c a b d):z/\∃e:h,∃c:v,∃a:a9,∃b:aA,∃d:aZ,dO e c a b d:=⟨g,e,c,a,b,d,f⟩
theorem qX (a:h) (b:v) (c:dp a b) (g:du a b) (e:dD a b) (f:dI a b) (d:dQ a b):∃a:h,∃b:v,dp a b/\du a b/\dD a b/\dI a b/\dQ a b:=⟨a,b,c,g,e,f,d⟩
variable {dP:h->v->a9->Prop}
theorem sA (a:h) (c:v) (b:a9) (g:dw a c b) (e:dC a c b) (f:dG a c b) (d:dP a c b):∃a:h,∃c:v,∃b:a9,dw a c b/\dC a c b/\dG a c b/\dP a c b:=⟨a,c,b,g,e,f,d⟩
variable {dY:h->v->Prop}
theorem n7 (a:h) (b:v) (c:dp a b) (i:du a b) (e:dD a b) (g:dI a b) (d:dQ a b) (f:dY a b):∃a:h,∃b:v,dp a b/\du a b/\dD a b/\dI a b/\dQ a b/\dY a b:=⟨a,b,c,i,e,g,d,f⟩
variable {dX:h->v->a9->Prop}
theorem gE (b:h) (c:v) (a:a9) (i:dw b c a) (e:dC b c a) (g:dG b c a) (d:dP b c a) (f:dX b c a):∃b:h,∃c:v,∃a:a9,dw b c a/\dC b c a/\dG b c a/\dP b c a/\dX b c a:=⟨b,c,a,i,e,g,d,f⟩
variable {dZ:h->v->a9->aA->Prop}
theorem vf {e:h->v->a9->aA->Prop} (c:h) (d:v) (b:a9) (a:aA) (g:dH c d b a) (j:dS c d b a) (f:dZ c d b a) (i:e c d b a):∃c:h,∃d:v,∃b:a9,∃a:aA,dH c d b a/\dS c d b a/\dZ c d b a/\e c d b a:=⟨c,d,b,a,g,j,f,i⟩
@[elab_as_elim] theorem Vu (a:h) (c:z/\a=dn) (k:z->dm dn):dm a:=by
 rcases c with ⟨b,rfl⟩;exact k b
@[elab_as_elim] theorem Th (a:h) (d:z/\ai/\a=dn) (k:z->ai->dm dn):dm a:=by
 rcases d with ⟨b,c,rfl⟩;exact k b c
theorem qY (d:∃b:h,∃a:v,dp b a) (k:∀b,∀a,dp b a->z):z:=by
 rcases d with ⟨b,a,c⟩;exact k b a c
@[elab_as_elim] theorem Lo (c:a9) (d:∃b:h,∃a:v,c=dJ b a) (k:∀b,∀a,dK (dJ b a)):dK c:=by
 rcases d with ⟨b,a,rfl⟩;exact k b a
theorem wY (h:z/\ai/\aF/\aS) (k:z->ai->aF->aS->ba):ba:=by
 rcases h with ⟨a,b,c,d⟩;exact k a b c d
@[elab_as_elim] theorem Lq (b:v) (e:z/\ai/\∃a:h,b=dA a) (k:z->ai->∀a,dB (dA a)):dB b:=by
 rcases e with ⟨d,c,a,rfl⟩;exact k d c a
@[elab_as_elim] theorem Qr (b:v) (e:∃a:h,dm a/\dA a=b/\dz a) (k:∀a,dm a->dz a->dB (dA a)):dB b:=by
 rcases e with ⟨a,c,rfl,d⟩;exact k a c d
@[elab_as_elim] theorem Lr (c:a9) (e:∃a:h,∃b:v,c=dJ a b/\dp a b) (k:∀a,∀b,dp a b->dK (dJ a b)):dK c:=by
 rcases e with ⟨a,b,rfl,d⟩;exact k a b d
theorem qn (h:z/\ai/\aF/\aS/\ba) (k:z->ai->aF->aS->ba->bl):bl:=by
 rcases h with ⟨d,a,b,e,c⟩;exact k d a b e c
@[elab_as_elim] theorem Dm (b:v) (e:z/\ai/\aF/\∃a:h,b=dA a) (k:z->ai->aF->∀a,dB (dA a)):dB b:=by
 rcases e with ⟨f,c,d,a,rfl⟩;exact k f c d a
theorem Dn (f:z/\ai/\∃a:h,dm a/\dz a) (k:z->ai->∀a,dm a->dz a->aF):aF:=by
 rcases f with ⟨d,b,a,e,c⟩;exact k d b a e c
@[elab_as_elim] theorem r6 (c:a9) (e:z/\ai/\∃b:h,∃a:v,c=dJ b a) (k:z->ai->∀b,∀a,dK (dJ b a)):dK c:=by
 rcases e with ⟨f,d,b,a,rfl⟩;exact k f d b a
@[elab_as_elim] theorem Ls (d:aA) (e:z/\∃c:h,∃b:v,∃a:a9,d=dM c b a) (k:z->∀c,∀b,∀a,dN (dM c b a)):dN d:=by
 rcases e with ⟨f,c,b,a,rfl⟩;exact k f c b a
@[elab_as_elim] theorem G9 (b:v) (f:z/\∃a:h,b=dA a/\dm a/\dz a) (k:z->∀a,dm a->dz a->dB (dA a)):dB b:=by
 rcases f with ⟨d,a,rfl,e,c⟩;exact k d a e c
theorem r7 (f:∃a:h,dm a/\dz a/\dF a/\dR a) (k:∀a,dm a->dz a->dF a->dR a->z):z:=by
 rcases f with ⟨a,b,c,e,d⟩;exact k a b c e d
@[elab_as_elim] theorem Lu (c:a9) (e:∃a:h,∃b:v,dp a b/\du a b/\c=dJ a b) (k:∀a,∀b,dp a b->du a b->dK (dJ a b)):dK c:=by
 rcases e with ⟨a,b,d,f,rfl⟩;exact k a b d f
theorem yd (f:∃b:h,∃c:v,∃a:a9,dw b c a/\dC b c a) (k:∀b,∀c,∀a,dw b c a->dC b c a->z):z:=by
 rcases f with ⟨b,c,a,e,d⟩;exact k b c a e d
@[elab_as_elim] theorem Lv {f:v->a9->aA} {c:v->a9->Prop} {G:h->aA->Prop} (d:h) (e:aA) (i:dn=d/\∃b:v,∃a:a9,e=f b a/\c b a) (k:∀b,∀a,c b a->G dn (f b a)):G d e:=by
 rcases i with ⟨rfl,b,a,rfl,g⟩;exact k b a g
@[elab_as_elim] theorem ON (b:v) (g:z/\ai/\aF/\aS/\∃a:h,b=dA a) (k:z->ai->aF->aS->∀a,dB (dA a)):dB b:=by
 rcases g with ⟨e,c,d,f,a,rfl⟩;exact k e c d f a
@[elab_as_elim] theorem zS (c:a9) (g:z/\ai/\aF/\∃a:h,∃b:v,c=dJ a b) (k:z->ai->aF->∀a,∀b,dK (dJ a b)):dK c:=by
 rcases g with ⟨f,d,e,a,b,rfl⟩;exact k f d e a b
@[elab_as_elim] theorem vg (d:aA) (g:z/\ai/\∃c:h,∃a:v,∃b:a9,d=dM c a b) (k:z->ai->∀c,∀a,∀b,dN (dM c a b)):dN d:=by
 rcases g with ⟨f,e,c,a,b,rfl⟩;exact k f e c a b
theorem Dp (g:z/\∃b:h,∃a:v,dp b a/\du b a/\dD b a) (k:z->∀b,∀a,dp b a->du b a->dD b a->ai):ai:=by
 rcases g with ⟨d,b,a,f,c,e⟩;exact k d b a f c e
@[elab_as_elim] theorem Ik (d:aA) (e:z/\∃c:h,∃b:v,∃a:a9,d=dM c b a/\dw c b a) (k:z->∀c,∀b,∀a,dw c b a->dN (dM c b a)):dN d:=by
 rcases e with ⟨f,c,b,a,rfl,g⟩;exact k f c b a g
theorem zT {b:h->Prop} (i:∃a:h,dm a/\dz a/\dF a/\dR a/\b a) (k:∀a,dm a->dz a->dF a->dR a->b a->z):z:=by
 rcases i with ⟨a,c,d,g,e,f⟩;exact k a c d g e f
theorem wZ (g:∃a:h,∃c:v,∃b:a9,dw a c b/\dC a c b/\dG a c b) (k:∀a,∀c,∀b,dw a c b->dC a c b->dG a c b->z):z:=by
 rcases g with ⟨a,c,b,f,d,e⟩;exact k a c b f d e
@[elab_as_elim] theorem Il {d:v->Prop} {c:v->Prop} {b:v->Prop} (e:h) (l:e=dn/\∃a:v,dB a/\d a/\c a/\b a) (k:∀a,dB a->d a->c a->b a->dm dn):dm e:=by
 rcases l with ⟨rfl,a,f,j,g,i⟩;exact k a f j g i
@[elab_as_elim] theorem w0 {f:h->v->a9->aA->aZ} {G:aZ->Prop} (e:aZ) (j:z/\ai/\∃d:h,∃a:v,∃b:a9,∃c:aA,e=f d a b c) (k:z->ai->∀d,∀a,∀b,∀c,G (f d a b c)):G e:=by
 rcases j with ⟨i,g,d,a,b,c,rfl⟩;exact k i g d a b c
@[elab_as_elim] theorem EP {g:h->v->a9->aA->aZ->bZ} {G:bZ->Prop} (f:bZ) (j:z/\∃e:h,∃d:v,∃a:a9,∃b:aA,∃c:aZ,f=g e d a b c) (k:z->∀e,∀d,∀a,∀b,∀c,G (g e d a b c)):G f:=by
 rcases j with ⟨i,e,d,a,b,c,rfl⟩;exact k i e d a b c
@[elab_as_elim] theorem sC {f:h->v->a9->aA->aZ} {G:aZ->Prop} (e:aZ) (j:z/\∃d:h,∃c:v,∃a:a9,∃b:aA,e=f d c a b/\dH d c a b) (k:z->∀d,∀c,∀a,∀b,dH d c a b->G (f d c a b)):G e:=by
 rcases j with ⟨i,d,c,a,b,rfl,g⟩;exact k i d c a b g
theorem nc (i:∃b:h,∃c:v,∃a:a9,dw b c a/\dC b c a/\dG b c a/\dP b c a) (k:∀b,∀c,∀a,dw b c a->dC b c a->dG b c a->dP b c a->z):z:=by
 rcases i with ⟨b,c,a,g,e,f,d⟩;exact k b c a g e f d
theorem Ag (i:∃c:h,∃d:v,∃b:a9,∃a:aA,dH c d b a/\dS c d b a/\dZ c d b a) (k:∀c,∀d,∀b,∀a,dH c d b a->dS c d b a->dZ c d b a->z):z:=by
 rcases i with ⟨c,d,b,a,f,g,e⟩;exact k c d b a f g e
variable {e7:h->v->a9->aA->aZ->Prop}
theorem Ah (i:∃c:h,∃e:v,∃d:a9,∃a:aA,∃b:aZ,dO c e d a b/\e7 c e d a b) (k:∀c,∀e,∀d,∀a,∀b,dO c e d a b->e7 c e d a b->z):z:=by
 rcases i with ⟨c,e,d,a,b,g,f⟩;exact k c e d a b g f
@[elab_as_elim] theorem Cj {g:h->v->a9->aA->aZ->bZ} {G:bZ->Prop} (f:bZ) (l:z/\∃e:h,∃d:v,∃a:a9,∃b:aA,∃c:aZ,f=g e d a b c/\dO e d a b c) (k:z->∀e,∀d,∀a,∀b,∀c,dO e d a b c->G (g e d a b c)):G f:=by
 rcases l with ⟨j,e,d,a,b,c,rfl,i⟩;exact k j e d a b c i
theorem iW (e:∃a:h,∃b:v,dp a b/\du a b/\dD a b/\dI a b/\dQ a b/\dY a b) (k:∀a,∀b,dp a b->du a b->dD a b->dI a b->dQ a b->dY a b->z):z:=by
 rcases e with ⟨a,b,c,j,f,i,d,g⟩;exact k a b c j f i d g
theorem oY (e:∃a:h,∃c:v,∃b:a9,dw a c b/\dC a c b/\dG a c b/\dP a c b/\dX a c b) (k:∀a,∀c,∀b,dw a c b->dC a c b->dG a c b->dP a c b->dX a c b->z):z:=by
 rcases e with ⟨a,c,b,j,f,i,d,g⟩;exact k a c b j f i d g
@[elab_as_elim] theorem Ai (d:aA) (l:z/\ai/\aF/\∃a:h,∃b:v,∃c:a9,dw a b c/\dC a b c/\d=dM a b c) (k:z->ai->aF->∀a,∀b,∀c,dw a b c->dC a b c->dN (dM a b c)):dN d:=by
 rcases l with ⟨j,e,f,a,b,c,g,i,rfl⟩;exact k j e f a b c g i
theorem qZ {d:h->v->a9->Prop} (f:∃a:h,∃c:v,∃b:a9,dw a c b/\dC a c b/\dG a c b/\dP a c b/\dX a c b/\d a c b) (k:∀a,∀c,∀b,dw a c b->dC a c b->dG a c b->dP a c b->dX a c b->d a c b->z):z:=by
 rcases f with ⟨a,c,b,m,g,l,e,i,j⟩;exact k a c b m g l e i j
@[elab_as_elim] theorem ER {e:h->v->a9->Prop} (d:aA) (n:∃a:h,∃c:v,∃b:a9,d=dM a c b/\dw a c b/\dC a c b/\dG a c b/\dP a c b/\dX a c b/\e a c b) (k:∀a,∀c,∀b,dw a c b->dC a c b->dG a c b->dP a c b->dX a c b->e a c b->dN (dM a c b)):dN d:=by
 rcases n with ⟨a,c,b,rfl,l,i,j,f,g,m⟩;exact k a c b l i j f g m
@[elab_as_elim] theorem tU {i:v->a9->aA->aZ->Prop} {n:v->a9->aA->aZ->Prop} {m:v->a9->aA->aZ->Prop} {j:v->a9->aA->aZ->Prop} {f:v->a9->aA->aZ->Prop} {e:v->a9->aA->aZ->Prop} {l:v->a9->aA->aZ->Prop} {o:v->a9->aA->aZ->Prop} (g:h) (A:z/\g=dn/\∃d:v,∃a:a9,∃c:aA,∃b:aZ,i d a c b/\n d a c b/\m d a c b/\j d a c b/\f d a c b/\e d a c b/\l d a c b/\o d a c b) (k:z->∀d,∀a,∀c,∀b,i d a c b->n d a c b->m d a c b->j d a c b->f d a c b->e d a c b->l d a c b->o d a c b->dm dn):dm g:=by
 rcases A with ⟨w,rfl,d,a,c,b,s,p,q,x,r,t,y,u⟩;exact k w d a c b s p q x r t y u
theorem Ra (d:z/\∃a:h,dm a) (k:z->∀a,dm a->ai):ai:=by
 rcases d with ⟨b,a,c⟩;exact k b a c
theorem Ti (d:z/\ai/\∃a:h,dm a) (k:z->ai->∀a,dm a->aF):aF:=by
 rcases d with ⟨b,c,a,e⟩;exact k b c a e
theorem Tj (d:z/\∃a:h,dm a/\dz a) (k:z->∀a,dm a->dz a->ai):ai:=by
 rcases d with ⟨b,a,c,e⟩;exact k b a c e
theorem Lw (f:z/\∃a:h,dm a/\dz a/\dF a) (k:z->∀a,dm a->dz a->dF a->ai):ai:=by
 rcases f with ⟨d,a,b,e,c⟩;exact k d a b e c
theorem Rb (f:z/\∃b:h,∃a:v,dp b a/\du b a) (k:z->∀b,∀a,dp b a->du b a->ai):ai:=by
 rcases f with ⟨d,b,a,e,c⟩;exact k d b a e c
theorem Lx (f:∃a:h,dm a/\∃c:v,∃b:a9,dw a c b) (k:∀a,dm a->∀c,∀b,dw a c b->z):z:=by
 rcases f with ⟨a,d,c,b,e⟩;exact k a d c b e
theorem OO (g:z/\∃a:h,dm a/\dz a/\dF a/\dR a) (k:z->∀a,dm a->dz a->dF a->dR a->ai):ai:=by
 rcases g with ⟨d,a,b,f,c,e⟩;exact k d a b f c e
theorem w' (g:∃b:h,∃d:v,∃c:a9,∃a:aA,dH b d c a/\dS b d c a) (k:∀b,∀d,∀c,∀a,dH b d c a->dS b d c a->z):z:=by
 rcases g with ⟨b,d,c,a,e,f⟩;exact k b d c a e f
theorem ES (i:z/\∃c:h,∃b:v,∃a:a9,dw c b a/\dC c b a/\dG c b a) (k:z->∀c,∀b,∀a,dw c b a->dC c b a->dG c b a->ai):ai:=by
 rcases i with ⟨f,c,b,a,e,g,d⟩;exact k f c b a e g d
theorem ye {e:h->v->a9->aA->Prop} (l:∃b:h,∃d:v,∃c:a9,∃a:aA,dH b d c a/\dS b d c a/\dZ b d c a/\e b d c a) (k:∀b,∀d,∀c,∀a,dH b d c a->dS b d c a->dZ b d c a->e b d c a->z):z:=by
 rcases l with ⟨b,d,c,a,g,j,f,i⟩;exact k b d c a g j f i
theorem Aj {c:h->v->Prop} (f:∃a:h,∃b:v,dp a b/\du a b/\dD a b/\dI a b/\dQ a b/\dY a b/\c a b) (k:∀a,∀b,dp a b->du a b->dD a b->dI a b->dQ a b->dY a b->c a b->z):z:=by
 rcases f with ⟨a,b,d,m,g,l,e,i,j⟩;exact k a b d m g l e i j
theorem ET (e:∃a:h,∃b:v,dp a b/\du a b/\dD a b/\dI a b/\∃c:a9,dw a b c/\dC a b c/\dG a b c) (k:∀a,∀b,dp a b->du a b->dD a b->dI a b->∀c,dw a b c->dC a b c->dG a b c->z):z:=by
 rcases e with ⟨a,b,d,m,f,l,c,g,j,i⟩;exact k a b d m f l c g j i
theorem Dq {j:h->v->a9->aA->aZ->Prop} {i:h->v->a9->aA->aZ->Prop} {g:h->v->a9->aA->aZ->Prop} {f:h->v->a9->aA->aZ->Prop} (r:∃b:h,∃e:v,∃d:a9,∃a:aA,∃c:aZ,dO b e d a c/\e7 b e d a c/\j b e d a c/\i b e d a c/\g b e d a c/\f b e d a c) (k:∀b,∀e,∀d,∀a,∀c,dO b e d a c->e7 b e d a c->j b e d a c->i b e d a c->g b e d a c->f b e d a c->z):z:=by
 rcases r with ⟨b,e,d,a,c,n,p,l,m,q,o⟩;exact k b e d a c n p l m q o
theorem Ak {m:h->v->a9->aA->aZ->Prop} {l:h->v->a9->aA->aZ->Prop} {i:h->v->a9->aA->aZ->Prop} {g:h->v->a9->aA->aZ->Prop} {f:h->v->a9->aA->aZ->Prop} {j:h->v->a9->aA->aZ->Prop} (n:∃b:h,∃e:v,∃d:a9,∃a:aA,∃c:aZ,dO b e d a c/\e7 b e d a c/\m b e d a c/\l b e d a c/\i b e d a c/\g b e d a c/\f b e d a c/\j b e d a c) (k:∀b,∀e,∀d,∀a,∀c,dO b e d a c->e7 b e d a c->m b e d a c->l b e d a c->i b e d a c->g b e d a c->f b e d a c->j b e d a c->z):z:=by
 rcases n with ⟨b,e,d,a,c,q,s,o,p,t,r,w,u⟩;exact k b e d a c q s o p t r w u
@[elab_as_elim] theorem Xd (b:v) (c:∃a:h,dA a=b) (k:∀a,dB (dA a)):dB b:=by
 rcases c with ⟨a,rfl⟩;exact k a
variable {a d o:Nat}
theorem n1 (h:a=d) (l:d<=o):a<=o:=h▸l
theorem Tn (h:a=d) (l:d<o):a<o:=h▸l
theorem EU (l:a<d) (h:o=d):a<o:=h▸l
theorem Vv (l:a<=d) (h:o=d):a<=o:=h▸l
theorem Wn (l:a<=d) (h:d=o):a<=o:=h▸l
theorem Ol (h:d+1<=a):a=a -1+1:=(pg (a_ (df 1 d) h)).symm
theorem U2 (h:d+2<=a):a=a -2+2:=(pg (a_ (df 2 d) h)).symm
theorem Qs (h:d+o+1<=a+1):o<=a:=a_ (df o d) (gL h)
theorem Xe (h:d+o+2<=a+2):o<=a:=a_ (df o d) (gL (gL h))
theorem ul (k:Nat) (h:a+d<o) (l:sW k d=true):a+k<o:=c_ (d7 (jf l) a) h
variable {I ak aI:Nat}
theorem um (h:a+d<o) (b:I<=aI) (l:sW aI d=true):a+min I ak<o:=c_ (d7 (a_ (g9 _ _) (a_ b (jf l))) a) h
theorem Vw (h:a+d<o) (b:I<=aI) (l:sW (aI+1) d=true):a+1+min I ak<o:=c_ (n1 (fK a 1 _) (d7 (a_ (n1 (eZ 1 _) (fi (a_ (g9 I ak) b))) (jf l)) a)) h
theorem Wo (h:a+d<o) (b:ak<=aI) (l:sW (aI+1) d=true):a+1+min I ak<o:=Nat.min_comm I ak▸Vw h b l
theorem sw (h:a+(d+1)<=I) (t:o<=a+1):o+d<=I:=a_ (gB t d) (n1 (g5 a 1 d) h)
theorem bk (c:d<=a) (b:a -d<=o) (h:o<a):o - (a -d)<d:=Nat.sub_lt_left_of_lt_add b ((pg c).symm▸h)
theorem Xf (b:a<=o) (c:o<=a+d) (e:I=o):a+(d - (a+d -o))=I:=by
 obtain ⟨x,rfl⟩:=pG b
 obtain ⟨y,rfl⟩:=pG (Nat.le_of_add_le_add_left c)
 rw [Nat.add_sub_add_left,ij,Nat.add_sub_cancel,e]
theorem Xg (c:d<=I+o) (e:o<=d) (b:¬a<I):a - (d -o)=I+o -d+(a -I):=by
 obtain ⟨x,rfl⟩:=pG e
 obtain ⟨y,rfl⟩:=pG (mS b)
 rw [ij,ij,eZ o x,Nat.add_sub_add_right]
 exact OF (Nat.le_of_add_le_add_right (eZ o x▸c))
theorem rm (h:a+I*(d+1)<=o) (l:sW ak I=true):a+ak+I*d<=o:=n1 (g5 a ak _) (a_ (d7 (jf l) _) (n1 (fK a (I*d) I) h))
theorem Wq (u:d=a+aI) (h:a+ak*(o+1)<=I) (l:sW aI ak=true):d+ak*o<=I:=u▸rm h l
theorem Xh (f:a+(d - (a+d -o))=o) (c:o=I) (b:ak=a) (e:aI=d):I<=ak+aI:=c▸b▸e▸n1 f.symm (d7 (jS _ _) a)
theorem u0 (h:a+d+o<I):a<I:=c_ (a_ (eh a d) (eh _ o)) h
theorem u1 (h:a+10*(d+1)+o<I):a+1+10*d+o<I:=
 c_ (gB (n1 (fK a 1 _) (d7 (n1 (eZ 1 _) (d7 (by decide:1<=10) _)) a)) o) h
theorem u2 (h:a+10*(d+1)+o<I):a+1+d<I:=c_ (a_ (n1 (fK a 1 d) (d7 (n1 (eZ 1 d) (nv _ (by decide))) a)) (eh _ o)) h
theorem u3 (h:a+10*d+o<I):a+d<I:=c_ (a_ (d7 (nv d (by decide)) a) (eh _ o)) h
theorem s5 (h:a+o*d<=I) (b:2<=d) (l:sW ak (o*2)=true):a+ak<=I:=a_ (d7 (a_ (jf l) (gT o b)) a) h
theorem r3 (h:a+d<=9000):a+800<9900:=c_ (gB (a_ (eh a d) h) 800) (by decide)
theorem r4 (h:a+d<=900):a<1000:=c_ (a_ (eh a d) h) (by decide)
theorem Xi (h:a=d+2):a+(o+2*I)=d+o+2*(I+1):=by rw [h,S9,fK,eZ 2,fK,fK]
theorem Xj (h:0<a):1+d<=d+2*a:=n1 (eZ 1 d) (d7 (a_ h (nv a (by decide))) d)
theorem Rc:∀g:Nat,g<6->1<=g->g=1\/g=2\/g=3\/g=4\/g=5:=by decide
variable {q aB cf:Int}
theorem Xk (l:q<=aB) (h:aB=cf):q<=cf:=h▸l
theorem Dr (h:1<=a/\a<=5):a=1\/a=2\/a=3\/a=4\/a=5:=Rc a (N8 h.2) h.1
theorem Ds (h:1<=q/\q<=5):q=1\/q=2\/q=3\/q=4\/q=5:=by
 obtain ⟨n,rfl⟩:=t9 (jG (by decide) h.1)
 have a:n<=5:=gU.mp h.2
 rcases n with _ |_ |_ |_ |_ |_ |n
 .exact absurd h.1 (by decide)
 .exact .inl rfl
 .exact .inr (.inl rfl)
 .exact .inr (.inr (.inl rfl))
 .exact .inr (.inr (.inr (.inl rfl)))
 .exact .inr (.inr (.inr (.inr rfl)))
 .exact absurd (a_ (df 6 n) a) (by decide)
theorem Xl (b:a<d) (h:min (a+1) d=0):False:=absurd ((j5 b).symm.trans h) (t7 a)
theorem JD (h:(-1:Int)=a):False:=by injection h
theorem Wr (h:a<2) (c:d<=o) (b:o<a):d=o:=by
 have e:=i7.mp (ej b (eY h))
 clear h b;subst e
 exact Nat.le_zero.mp c
theorem JE (h:a<=100000):(a:Int)<2 ^ 63:=yc (gU.mpr h) (by decide)
theorem Xm (h:a<=100000):¬(a:Int)>=2 ^ 63:=Df.mpr (JE h)
theorem Rd (h:q.natAbs<=3000000):-2 ^ 63<=q/\q<2 ^ 63:=
 have c:=jG So (gU.mpr h)
 have b:=jG (So (a:=-q)) (Int.natAbs_neg q▸gU.mpr h)
 ⟨jG (by decide) (BG q▸Int.neg_le_neg b),yc c (by decide)⟩
theorem To (h:q.toNat<a) (b:a<=100000):q<2 ^ 63:=yc (Int.self_le_toNat q) (JE (eB (ej h b)))
theorem Ws (a:q.natAbs<=1000000) (b:aB.natAbs<=1000000):(aB -q -1+1).natAbs<=3000000:=n1 (congrArg Lh (nx _ _)) (a_ (Oi _ _) (a_ (fQ b a) (by decide)))
theorem Wt (h:q<aB):0<=aB -q -1+1:=Xk (v8 (zD h)) (nx _ _).symm
theorem Wu (h:¬q<aB):qk 0=(aB -q).toNat:=(Oh.mpr (Int.sub_nonpos_of_le (ny.mp h))).symm
theorem Wv:q -aB=q+ -1*aB:=congrArg (q+·) (Int.neg_one_mul aB).symm
theorem Xn:q+(aB*cf+1*cf)=q+cf+aB*cf:=by rw [U1,G6 (aB*cf),Int.add_assoc]
theorem Xo:((a:Int)+d*1).toNat=a+d:=congrArg (λz=>((a:Int)+z).toNat) (Int.mul_one (d:Int))
theorem tn (h:q.toNat=a+1):(q -1).toNat=a:=by
 induction q using Int.casesOn with
 |ofNat n=>cases h;exact congrArg qk (rZ (a:Int) 1)
 |negSucc n=>injection h
theorem Ww (b:0<=q) (c:q<=aB) (d:aB.toNat<=a):max 0 (min q a)=q:=(congrArg (max 0) (Qn (jG c (Int.toNat_le.mp d)))).trans (qm b)
theorem Vx (h:0<=q):min q a=((min q.toNat a:Nat):Int):=by
 obtain ⟨k,rfl⟩:=t9 h
 exact (ur k a).elim (λh=>(Qn (gU.mpr h)).trans (congrArg OI (j5 h).symm)) λh=>(Int.min_eq_right (gU.mpr h)).trans (congrArg OI (t8 h).symm)
theorem Wx (h:0<=q):max 0 (min q a)=((min q.toNat a:Nat):Int):=by rw [Vx h];exact qm (gF _)
theorem Wy (b:a<=d) (c:d<=o) (e:o+I<=ak):min a o+I+(o -d)<=ak:=a_ (gB (gB (a_ (g9 _ _) b) I) _) (n1 ((g5 d I _).trans (congrArg (·+I) (rz c))) e)
theorem Xp (b:a<=d) (c:d<=o) (e:o+I<=ak):min a o -0+I+(min o o -d)<=ak+1:=by rw [GZ];exact f5 (Wy b c e)
theorem ad (h:a+d<=ak) (b:o=a) (c:I=d):o+I<=ak:=b▸c▸h
theorem U3 (h:o=a+(d+1)):a<o:=h▸ej (fJ a) (d7 (df 1 d) a)
theorem Vy (h:o -I=a+(d+1)):I+a<o:=eZ I a▸Nat.add_lt_of_lt_sub (U3 h)
theorem Xq (h:0<o) (b:a -d=I+1):a - (d+o)<=I:=n1 (Q3 a d o) (b▸j' (d7 h I))
theorem Xr (b:o<=a -d) (c:0<o):d+o<=a:=eZ o d▸Nat.add_le_of_le_sub (eB (N9 (ej c b))) b
theorem Xs (c:o<=a -d) (b:0<o):a - (d+o)<a -d:=Tn (Q3 a d o) (kh (ej b c) b)
theorem Vz (b:a<4):1+a<=4:=n1 (eZ 1 a) b
theorem Wz (b:a+100<100000) (c:d<5) (e:o<10):a+1+7*d+o<100000:=c_ (a_ (fQ (d7 (gT 7 (eY c)) (a+1)) (eY e)) (d7 (by decide:38<=100) a)) b
theorem WA (b:a+100<100000) (e:d<5) (c:o<4):a+1+7*d+1+(1+o)<100000:=
 c_ (fQ (gB (d7 (gT 7 (eY e)) (a+1)) 1) (d7 (eY c) 1)) (c_ (d7 (by decide:34<=100) a) b)
theorem Xt (b:d<4):a+1+(1+d)<=a+6:=d7 (d7 (d7 (eY b) 1) 1:1+(1+d)<=1+(1+3)) a|>n1 (fK a 1 _)|>λh=>f5 h
theorem Xu (b:d<4):a+1+(1+d)+1<=a+6:=fi (d7 (Vz b) (a+1))
theorem Xv (b:d<6):a+1+7*d<=a+36:=d7 (gT 7 (eY b)) (a+1)
theorem y3 (b:a+d<o) (c:I<d):a+(1+I)<o:=c_ (d7 (n1 (eZ 1 I) c) a) b
theorem y5:a+d+1=a+(1+d):=congrArg (a+·) (eZ d 1)
theorem Xw:((a:Int) -d -1+1).toNat=a -d:=(congrArg qk (nx _ 1)).trans (EL a d)
theorem Xx (h:¬(a:Int)>d):qk 0=a -d:=(vE (gU.mp (ny.mp h))).symm
theorem cs (h:d<a):(a:Int) -1 -d=((a - (d+1):Nat):Int):=(Int.sub_sub ..).trans ((congrArg ((a:Int) - ·) (G6 1 d)).trans (Sn h).symm)
theorem VA (h:d<a):((a:Int) -1+ -1*d).toNat=a -1 -d:=(congrArg qk (Wv.symm.trans (cs h))).trans ((congrArg (a - ·) (eZ d 1)).trans (UU a 1 d).symm)
theorem z0 (h:¬(a:Int) -1> -1):a=0:=by
 rcases a with _ |a
 .rfl
 .exact absurd (Li (by decide) (jG (gF a) (Te (rZ (a:Int) 1).symm))) h
theorem ka (b:¬0<=q):q+a=(a:Int) - (q.natAbs:Int):=by
 rw [De (zD (Df.mp b)),JA,G6]
theorem kb (b:¬0<=q):a -q.natAbs=(q+a).toNat:=(EL a q.natAbs).symm.trans (congrArg qk (ka b).symm)
theorem kc (b:¬0<=q) (c:q.natAbs<=a):0<=q+a/\q+a<a:=⟨ka b▸v8 (gU.mpr c),Li (Int.add_lt_add_right (Df.mp b) (a:Int)) (Te (Int.zero_add _))⟩
theorem kd (b:¬0<=q) (c:q.natAbs<=a):-(a:Int)<=q:=Int.le_of_sub_nonneg ((JA q a).symm▸(kc b c).1)
theorem Tp (b:a<5):1<=1+(a:Int)/\1+(a:Int)<=5:=⟨Int.le_add_of_nonneg_right (gF a),Int.add_le_add_left (gU.mpr (eY b)) 1⟩
theorem Xy:((a:Int) -1 - -1).toNat=a:=congrArg qk ((JA _ _).trans (nx (a:Int) 1))
theorem Sq (h:a<=1000):((a:Int) -1).natAbs<=1000000:=a_ (Oi _ _) (a_ (gB h 1) (by decide))
theorem Xz (b:a+2<=d):¬(d:Int) -a<2:=ny.mpr (Int.le_sub_left_of_add_le (gU.mpr b))
theorem XA (h:a<d) (b:d<=o) (e:min (d -a) (o -a)=0):False:=oD (Nat.lt_min.mpr ⟨i5 h,i5 (ej h b)⟩) e
theorem VB:((1+a:Nat):Int) -1=a:=(congrArg (λz:Nat=>(z:Int) -1) (eZ 1 a)).trans (rZ (a:Int) 1)
theorem XB (b:¬d<a) (c:¬d=a):d=a+(d -a -1+1):=by
 have h:=nu (i6.mp b) (nD c)
 rw [pg (i5 h),rz (eB h)]
theorem XC:a+d+1+o=a+(o+1)+d:=(fK (a+d) 1 o).trans ((congrArg (a+d+·) (eZ 1 o)).trans (g5 a d (o+1)))
theorem XD (h:a+d<o):min a o+(o - (a+d+1)+1)=o -d:=by
 obtain ⟨x,rfl⟩:=Nat.exists_eq_add_of_lt h
 rw [j5 (a_ (eh a d) (eB h)),g5 _ x 1,ij,fK a d 1,Nat.add_left_comm a d,fK d,ij,eZ x 1,fK a 1 x]
theorem VC (h:((a+d:Nat):Int)=((a+0:Nat):Int)):d=0:=Nat.add_left_cancel (rE h)
theorem VD (b:¬d<a) (c:¬d=a):d+o≠a:=oD (ej (nu (i6.mp b) (nD c)) (eh d o))
theorem XE (b:a<o) (h:d<=o - (a+1)):a+d<o:=n1 (Nat.succ_add a d).symm (Ic b h)
theorem XF:((a+d+1:Nat):Int) -d=((a+1:Nat):Int):=(congrArg (λz:Nat=>(z:Int) -d) (g5 a d 1)).trans (rZ ((a+1:Nat):Int) d)
theorem VF (e:d=a+(o -I)) (h:a<d):I<o:=N9 (Nat.lt_of_add_lt_add_left (n:=a) (e▸h))
theorem VH (e:d=a+(o -I)) (h:¬a<d):o -I=0:=Nat.eq_zero_of_not_pos λq=>h (e▸gm q)
theorem XG (b:a<10000) (c:d<8):a+1+d<100000:=gH (Nat.add_lt_add (qF b 1) c) (by decide)
theorem XH (b:d<8):a+1+d<=a+9:=a_ (d7 (eB b) (a+1)) (eK _)
theorem XI (b:d<=9*o) (c:a<=4):2*a+1+d<=9*(o+1):=a_ (fQ (gB (gT 2 c) 1) b) (gy (eZ _ _))
variable {bc:Nat}
theorem VI (b:a<=I) (c:d+(o+1)<=aI) (f:aI<=ak) (e:bc+(I+(1+ak))<1001):a+d<100000:=
 c_ (fQ b (a_ (a_ (eh d (o+1)) c) (a_ f (df ak 1)))) (c_ (df _ bc) (gH e (by decide)))
theorem XJ (b:a+1<=1+o) (c:o<=I) (f:I<1000) (e:d<=1000):a+d<100000:=
 c_ (fQ (a_ (gL (Wn b (eZ 1 o))) c) e) (gH (qF f 1000) (by decide))
theorem Ly [Decidable z] {k:h} (a:(if z then some dn else none)=some k):z/\dn=k:=
 if q:z then ⟨q,d5 ((if_pos q).symm.trans a)⟩ else absurd ((if_neg q).symm.trans a) (λx=>noConfusion_of_Nat N6 x)
theorem WB [Decidable z] {k:h} (a:(if z then none else some dn)=some k):¬z/\dn=k:=
 if q:z then absurd ((if_pos q).symm.trans a) (λx=>noConfusion_of_Nat N6 x) else ⟨q,d5 ((if_neg q).symm.trans a)⟩
local macro_rules
|`(tactic|rw [$rs,*] at $h:ident)=>do
 let mut ts:Array (Lean.TSyntax `tactic):=#[]
 for r in rs.getElems do
  let t:Lean.Term:=⟨r.raw[1]⟩
  if r.raw[0].isNone then ts:=ts.push (←`(tactic|first |replace $h :=$t▸$h |replace $h :=($t ..)▸$h |rewrite [$r] at $h:ident))
  else ts:=ts.push (←`(tactic|first |replace $h :=Eq.symm $t▸$h |replace $h :=Eq.symm ($t ..)▸$h |rewrite [$r] at $h:ident))
 `(tactic|($[$ts]*;try (with_reducible rfl)))
|`(tactic|rw [$rs,*])=>do
 let mut ts:Array (Lean.TSyntax `tactic):=#[]
 for r in rs.getElems do
  let t:Lean.Term:=⟨r.raw[1]⟩
  if r.raw[0].isNone then ts:=ts.push (←`(tactic|first |refine Mine.Wl $t ?_ |refine Mine.Wl ($t ..) ?_ |rewrite [$r]))
  else ts:=ts.push (←`(tactic|first |refine Mine.Wm $t ?_ |refine Mine.Wm ($t ..) ?_ |rewrite [$r]))
 `(tactic|($[$ts]*;try (with_reducible rfl)))
variable {i af:AV} {aT:List (Nat×AV)}
section
set_option genInjectivity true in
inductive AV where
 |none |bool (b:Bool) |int (i:Int) |str (s:List Nat)
 |tup (xs:List AV) |ref (a:Nat) |pZ (lo hi st:Int) |fn (n:Nat) |cls (n:Nat) |bi (n:Nat) |BQ (xs:List Int)
 deriving Inhabited
set_option genInjectivity true in
inductive AO where
 |list (xs:List AV)
 |dict (kvs:List (AV×AV))
 |inst (c:Nat) (dx:Nat) (fs:List (Nat×AV))
noncomputable abbrev AS:=Nat->Option AO
noncomputable abbrev MM:=List (Option AV)
noncomputable def AS.set (st:AS) (a:Nat) (o:AO):AS:=λb=>if b=a then some o else st b
noncomputable def AS.le (st st':AS):Prop:=∀a o,st a=some o->st' a=some o
noncomputable def AS.free (st:AS) (a:Nat):Prop:=st a=none/\∀b c fs,st b≠some (.inst c a fs)
inductive Sr where |add |sub |mul |mod |fdiv |band
inductive Om where |eq |ne |lt |le |gt |ge |Tq |Ck |Ss |Tr
mutual
inductive CE where
 |var (i:Nat)
 |cst (v:AV)
 |tup (es:wL)
 |lst (es:wL)
 |bin (o:Sr) (a b:CE)
 |neg (a:CE)
 |not (a:CE)
 |and (a b:CE)
 |or (a b:CE)
 |cmp (a:CE) (o:Om) (b:CE)
 |EV (a:CE) (o:Om) (b:CE) (p:Om) (c:CE)
 |ite (c a b:CE)
 |attr (e:CE) (x:Nat)
 |sub (e i:CE)
 |t_ (e lo hi:CE)
 |rev (e:CE)
 |call (f:CE) (es:wL)
 |fO (o:CE) (x:Nat) (es:wL)
 |comp (caps:List (Option Nat)) (elt:CE) (tgt:List Nat) (iter:CE) (conds:wL) (rest:Gens)
 |dict (es:wL)
 |EW (e:CE) (body:CE)
inductive wL where
 |nil
 |cons (e:CE) (r:wL)
inductive Gens where
 |nil
 |cons (tgt:List Nat) (iter:CE) (conds:wL) (rest:Gens)
end
mutual
inductive CS where
 |asg (i:Nat) (e:CE)
 |td (is:List Nat) (e:CE)
 |iE (o:CE) (x:Nat) (e:CE)
 |EX (o:CE) (x:Nat) (o':CE) (x':Nat) (e:CE)
 |ua (o i e:CE)
 |Lz (o lo hi e:CE)
 |ex (e:CE)
 |ret (e:CE)
 |iff (c:CE) (a b:w_)
 |EY (c:CE) (b:w_)
 |kj (tgt:List Nat) (e:CE) (b:w_)
 |brk
inductive w_ where
 |nil
 |cons (s:CS) (r:w_)
end
inductive Fl where |next |brk |ret (v:AV)
inductive iF:Nat->AV->Prop where
 |int (n:Nat) (i:Int):iF n (.int i)
 |str (n:Nat) (s:List Nat):(∀c∈s,c<128)->iF n (.str s)
 |tup (n:Nat) (xs:List AV):(∀x∈xs,iF n x)->iF (n+1) (.tup xs)
noncomputable abbrev Plain (v:AV):Prop:=iF 6 v
inductive oR:Nat->AV->Prop where
 |int (n:Nat) (i:Int):oR n (.int i)
 |tup (n:Nat) (xs:List AV):(∀x∈xs,oR n x)->oR (n+1) (.tup xs)
noncomputable def JF (k:AV):Prop:=(∃xs,k= .tup xs)/\oR 4 k
noncomputable def IntKeys (kvs:List (AV×AV)):Prop:=∀p∈kvs,∃i,p.1= .int i
noncomputable def te (k:AV) (kvs:List (AV×AV)):Prop:=((∃i,k= .int i)/\IntKeys kvs)\/(JF k/\∀p∈kvs,JF p.1)
inductive nQ (st:AS):AV->Bool->Prop where
 |none:nQ st .none false
 |bool (b:Bool):nQ st (.bool b) b
 |int (i:Int):nQ st (.int i) (decide (i≠0))
 |tup (xs:List AV):nQ st (.tup xs) (!xs.isEmpty)
 |list {a:Nat} {xs:List AV} (h:st a=some (.list xs)):nQ st (.ref a) (!xs.isEmpty)
inductive Eqv (st:AS):AV->AV->Bool->Prop where
 |bool (a b:Bool):Eqv st (.bool a) (.bool b) (a==b)
 |plain {v w:AV} (hv:Plain v) (hw:Plain w) (b:Bool) (h:b=true↔v=w):Eqv st v w b
 |list {a a':Nat} {xs ys:List AV} (h:st a=some (.list xs)) (h':st a'=some (.list ys)) (hx:∀x∈xs,Plain x) (hy:∀x∈ys,Plain x)
  (b:Bool) (hb:b=true↔xs=ys):Eqv st (.ref a) (.ref a') b
 |Im {a a':Nat} {kvs:List (AV×AV)} (h:st a=some (.dict kvs)) (hi:IntKeys kvs) (h':st a'=some (.dict [])):Eqv st (.ref a) (.ref a') kvs.isEmpty
 |Io {a a':Nat} {kvs lvs:List (AV×AV)} (h:st a=some (.dict kvs)) (h':st a'=some (.dict lvs))
  (hk:∀kv∈kvs,∃i r xs,kv=(.int i,.ref r)/\st r=some (.list xs)/\(∀x∈xs,Plain x))
  (hl:∀kv∈lvs,∃i r xs,kv=(.int i,.ref r)/\st r=some (.list xs)/\(∀x∈xs,Plain x))
  (hlen:kvs.length=lvs.length)
  (hall:∀i r xs,(AV.int i,AV.ref r)∈kvs->st r=some (.list xs)->∃r',(AV.int i,AV.ref r')∈lvs/\st r'=some (.list xs)):Eqv st (.ref a) (.ref a') true
inductive Cm (st:AS):AV->AV->Bool->Prop where
 |list {v:AV} {a:Nat} {xs:List AV} (hv:Plain v) (h:st a=some (.list xs)) (hx:∀x∈xs,Plain x) (b:Bool) (hb:b=true↔v∈xs):Cm st v (.ref a) b
 |tup {v:AV} {xs:List AV} (hv:Plain v) (hx:∀x∈xs,Plain x) (b:Bool) (hb:b=true↔v∈xs):Cm st v (.tup xs) b
 |dict {v:AV} {a:Nat} {kvs:List (AV×AV)} (h:st a=some (.dict kvs)) (hv:te v kvs) (b:Bool) (hb:b=true↔v∈kvs.map (·.1)):Cm st v (.ref a) b
noncomputable def Tt (o:Om) (i j:Int):Option Bool:=match o with
 | .lt=>some (decide (i<j))
 | .le=>some (decide (i<=j))
 | .gt=>some (decide (i>j))
 | .ge=>some (decide (i>=j))
 |_=>none
inductive pR (st:AS) (Q:Bool->Prop):Om->AV->AV->Prop where
 |eq {v w:AV} {b:Bool} (h:Eqv st v w b) (q:Q b):pR st Q .eq v w
 |ne {v w:AV} {b:Bool} (h:Eqv st v w b) (q:Q (!b)):pR st Q .ne v w
 |Tq {v w:AV} {b:Bool} (h:Cm st v w b) (q:Q b):pR st Q .Tq v w
 |Ck {v w:AV} {b:Bool} (h:Cm st v w b) (q:Q (!b)):pR st Q .Ck v w
 |VJ (q:Q true):pR st Q .Ss .none .none
 |XK {v:AV} (h:v≠.none) (h':∀n,v≠.bi n) (q:Q false):pR st Q .Ss v .none
 |Tu (q:Q false):pR st Q .Tr .none .none
 |Tw {v:AV} (h:v≠.none) (h':∀n,v≠.bi n) (q:Q true):pR st Q .Tr v .none
 |ord {o:Om} {i j:Int} {b:Bool} (h:Tt o i j=some b) (q:Q b):pR st Q o (.int i) (.int j)
noncomputable def binI (o:Sr) (i j:Int):Option Int:=match o with
 | .add=>some (i+j)
 | .sub=>some (i -j)
 | .mul=>if i.natAbs<2 ^ 60\/j.natAbs<2 ^ 60 then some (i*j) else none
 | .mod=>if j=0 then none else some (i.fmod j)
 | .fdiv=>if j=0\/1000000<=j.natAbs then none else some (i.fdiv j)
 | .band=>if 0<=i/\0<=j then some (OI (i.toNat&&& j.toNat)) else none
noncomputable def fG:Nat:=100000
inductive Am (st:AS) (Q:AV->AS->Prop):Sr->AV->AV->Prop where
 |int {o:Sr} {i j k:Int} (hb:binI o i j=some k) (h:Q (.int k) st):Am st Q o (.int i) (.int j)
 |cat {xs ys:List AV} (hl:xs.length+ys.length<=fG) (h:Q (.tup (xs++ys)) st):Am st Q .add (.tup xs) (.tup ys)
 |app {a b:Nat} {xs ys:List AV} (ha:st a=some (.list xs)) (hb:st b=some (.list ys)) (hl:xs.length+ys.length<=fG) (h:∀c,st.free c->Q (.ref c) (st.set c (.list (xs++ys)))):Am st Q .add (.ref a) (.ref b)
 |rep {a:Nat} {n:Int} {xs:List AV} (ha:st a=some (.list xs)) (hb:n.natAbs<=fG) (hc:xs.length*n.toNat<=fG) (h:∀c,st.free c->Q (.ref c) (st.set c (.list (gn n.toNat xs).flatten))):Am st Q .mul (.ref a) (.int n)
noncomputable def itemAt (xs:List AV) (i:Int):Option AV:=if 0<=i then xs[i.toNat]? else if i.natAbs<=xs.length then xs[xs.length -i.natAbs]? else none
inductive zE (st:AS) (Q:AV->AS->Prop):AV->AV->Prop where
 |tup {xs:List AV} {k:Int} {x:AV} (h:itemAt xs k=some x) (q:Q x st):zE st Q (.tup xs) (.int k)
 |list {a:Nat} {xs:List AV} {k:Int} {x:AV} (hs:st a=some (.list xs)) (h:itemAt xs k=some x) (q:Q x st):zE st Q (.ref a) (.int k)
 |dict {a:Nat} {kvs:List (AV×AV)} {i x:AV} (hs:st a=some (.dict kvs)) (hk:te i kvs) (hx:(i,x)∈kvs) (q:Q x st):zE st Q (.ref a) i
noncomputable def cut (xs:List AV) (lo hi:AV):Option (List AV):=match lo,hi with
 | .none,.none=>some xs
 | .none,.int h=>if 0<=h then some (xs.take h.toNat) else none
 | .int l,.none=>if 0<=l then some (xs.drop l.toNat) else none
 | .int l,.int h=>if 0<=l/\0<=h then some ((xs.take h.toNat).drop l.toNat) else none
 |_,_=>none
inductive G' (st:AS) (Q:AV->AS->Prop):AV->AV->AV->Prop where
 |tup {xs ys:List AV} {l h:AV} (hc:cut xs l h=some ys) (q:Q (.tup ys) st):G' st Q (.tup xs) l h
 |list {a:Nat} {xs ys:List AV} {l h:AV} (hs:st a=some (.list xs)) (hc:cut xs l h=some ys) (q:∀c,st.free c->Q (.ref c) (st.set c (.list ys))):G' st Q (.ref a) l h
 |BQ {xs:List Int} {ys:List AV} {l h:AV} (hc:cut (xs.map .int) l h=some ys) (q:∀c,st.free c->Q (.ref c) (st.set c (.list ys))):G' st Q (.BQ xs) l h
inductive OP (st:AS) (Q:AV->AS->Prop):AV->Prop where
 |mk {a:Nat} {xs:List AV} (hs:st a=some (.list xs)) (q:∀c,st.free c->Q (.ref c) (st.set c (.list xs.reverse))):OP st Q (.ref a)
inductive It where
 |list (a:Nat) (xs:List AV)
 |tup
 |dict (a:Nat) (ks:List AV)
 |pZ
noncomputable def It.ok (it:It) (st:AS):Prop:=match it with
 | .list a xs=>st a=some (.list xs)
 | .dict a ks=>∃kvs,st a=some (.dict kvs)/\kvs.map (·.1)=ks
 |_=>True
noncomputable def xa (lo hi st:Int):Option (List AV):=
 if st=1 then some ((eR (hi -lo).toNat).map λ(k:Nat)=>.int (lo+k))
 else if st= -1 then some ((eR (lo -hi).toNat).map λ(k:Nat)=>.int (lo -k))
 else none
inductive om (st:AS) (Q:It->List AV->Prop):AV->Prop where
 |tup {xs:List AV} (q:Q .tup xs):om st Q (.tup xs)
 |pZ {lo hi s:Int} {xs:List AV} (h:xa lo hi s=some xs) (q:Q .pZ xs):om st Q (.pZ lo hi s)
 |list {a:Nat} {xs:List AV} (hs:st a=some (.list xs)) (q:Q (.list a xs) xs):om st Q (.ref a)
 |dict {a:Nat} {kvs:List (AV×AV)} (hs:st a=some (.dict kvs)) (hi:IntKeys kvs) (q:Q (.dict a (kvs.map (·.1))) (kvs.map (·.1))):om st Q (.ref a)
noncomputable def jI (tgt:List Nat) (x:AV) (m:MM):Option MM:=match tgt with
 |[i]=>some (m.set i (some x))
 |is=>match x with
  | .tup xs=>if xs.length=is.length then some ((is.zip xs).foldl (λm p=>m.set p.1 (some p.2)) m) else none
  |_=>none
noncomputable def Cn:List (Int×AV)->List AV
 |[]=>[]
 |(k,v)::r=>.int k::v::Cn r
noncomputable def Oo (tgt:List Nat) (m:MM):MM:=tgt.foldl (λm i=>m.set i none) m
inductive Lt:AV->AV->Prop where
 |int {i j:Int} (h:i<j):Lt (.int i) (.int j)
 |tup (p:List AV) (x y:AV) (r s:List AV) (h:Lt x y):Lt (.tup (p++x::r)) (.tup (p++y::s))
 |len (p:List AV) (y:AV) (s:List AV):Lt (.tup p) (.tup (p++y::s))
noncomputable def gY (v w:AV):Prop:=Lt v w\/v=w\/Lt w v
noncomputable def q0 (xs:List AV):Prop:=(∀x∈xs,∃i,x= .int i)\/(∀x∈xs,oR 4 x/\∃y ys,x= .tup (y::ys))
noncomputable def iB (fs:List (Nat×AV)) (x:Nat) (v:AV):List (Nat×AV):=match fs with
 |[]=>[(x,v)]
 |(y,u)::r=>if y=x then (y,v)::r else (y,u)::iB r x v
theorem vM:iB ((a,i)::aT) d af=if a=d then (a,af)::aT else (a,i)::iB aT d af:=rfl
open Classical in
noncomputable def dictPut (kvs:List (AV×AV)) (k v:AV):List (AV×AV):=
 if k∈kvs.map (·.1) then kvs.map (λp=>if p.1=k then (k,v) else p) else kvs++[(k,v)]
noncomputable def XM:=0
noncomputable def U4:=1
noncomputable def XN:=2
noncomputable def XO:=3
noncomputable def VK:=4
noncomputable def VL:=5
noncomputable def WC:=6
noncomputable def XP:=7
noncomputable def XQ:=8
noncomputable def XR:=9
noncomputable def WD:=10
inductive pq (st:AS) (Q:List AV->Prop):AV->Prop where
 |tup {xs:List AV} (q:Q xs):pq st Q (.tup xs)
 |list {a:Nat} {xs:List AV} (hs:st a=some (.list xs)) (q:Q xs):pq st Q (.ref a)
 |dict {a:Nat} {kvs:List (AV×AV)} (hs:st a=some (.dict kvs)) (hi:IntKeys kvs) (q:Q (kvs.map (·.1))):pq st Q (.ref a)
inductive Co (st:AS) (Q:List AV->Prop):AV->Prop where
 |mk {a:Nat} {xs:List AV} (hs:st a=some (.list xs)) (q:Q xs):Co st Q (.ref a)
inductive One (Q:AV->Prop):List AV->Prop where
 |mk {v:AV} (q:Q v):One Q [v]
inductive VM (Q:AV->AV->Prop):List AV->Prop where
 |mk {v w:AV} (q:Q v w):VM Q [v,w]
inductive G_ (Q:Int->Prop):AV->Prop where
 |mk {i:Int} (q:Q i):G_ Q (.int i)
inductive OQ (st:AS) (Q:List AV->Prop):AV->Prop where
 |tup {xs:List AV} (q:Q xs):OQ st Q (.tup xs)
 |list {a:Nat} {xs:List AV} (hs:st a=some (.list xs)) (q:Q xs):OQ st Q (.ref a)
noncomputable def Tx (args:List AV) (Q:List Int->Prop):Prop:=∃is:List Int,args=is.map .int/\Q is
inductive JG (Q:Int->Int->Int->Prop):List Int->Prop where
 |one {n:Int} (q:Q 0 n 1):JG Q [n]
 |two {a b:Int} (q:Q a b 1):JG Q [a,b]
 |down {a b:Int} (q:Q a b (-1)):JG Q [a,b,-1]
noncomputable def Ip (n:Nat) (args:List AV) (st:AS) (Q:AV->AS->Prop):Prop:=match n with
 |0=>One (pq st λxs=>xs.length<=fG->Q (.int xs.length) st) args
 |1=>One (pq st λxs=>xs.length<6/\q0 xs/\(xs.Pairwise λa b=>gY a b)/\
  ∃ys,ys.Perm xs/\(ys.Pairwise λa b=>Lt a b\/a=b)/\∀c,st.free c->Q (.ref c) (st.set c (.list ys))) args
 |2=>One (Co st λxs=>∃m,(∀x∈xs,∃i,x= .int i/\m<=i)/\AV.int m∈xs/\Q (.int m) st) args
 |3=>VM (λv w=>G_ (λi=>G_ (λj=>Q (.int (max i j)) st) w) v) args
 |4=>Tx args (JG λa b s=>a.natAbs<=1000000/\b.natAbs<=1000000/\Q (.pZ a b s) st)
 |5=>One (Co st λxs=>Q (.tup xs) st) args
 |6=>One (Co st λps=>∃kvs:List (AV×AV),ps=kvs.map (λp=>.tup [p.1,p.2])/\(∀p∈kvs,∃i,p.1= .int i)/\
  ∀c,st.free c->Q (.ref c) (st.set c (.dict (kvs.foldl (λd p=>dictPut d p.1 p.2) [])))) args
 |7=>One (Co st λxs=>∃bs:List Bool,xs=bs.map .bool/\Q (.bool (bs.any id)) st) args
 |8=>One (G_ λi=>Q (.int i.natAbs) st) args
 |9=>One (G_ λi=>Q (.int i) st) args
 |10=>One (OQ st λxs=>∀c,st.free c->Q (.ref c) (st.set c (.list xs))) args
 |_=>False
noncomputable def U5:=0
noncomputable def XS:=1
noncomputable def Qt:=2
noncomputable def XT:=3
inductive y8 (a:Nat) (xs:List AV) (st:AS) (Q:AV->AS->Prop):Nat->List AV->Prop where
 |app {v:AV} (hl:xs.length<fG) (q:Q .none (st.set a (.list (xs++[v])))):y8 a xs st Q 0 [v]
 |pop {v:AV} (hv:xs.getLast? =some v) (q:Q v (st.set a (.list xs.dropLast))):y8 a xs st Q 3 []
inductive y9 (a:Nat) (kvs:List (AV×AV)) (st:AS) (Q:AV->AS->Prop):Nat->List AV->Prop where
 |VN {i:Int} (hi:IntKeys kvs) (q:(∃v,(AV.int i,v)∈kvs/\Q v st)\/(AV.int i∉kvs.map (·.1)/\Q .none st)):y9 a kvs st Q 1 [.int i]
 |Ha {i:Int} {d:AV} (hi:IntKeys kvs) (q:(∃v,(AV.int i,v)∈kvs/\Q v st)\/(AV.int i∉kvs.map (·.1)/\Q d st)):y9 a kvs st Q 1 [.int i,d]
 |Tz {i:Int} {d:AV} (hi:IntKeys kvs) (q:(∃v,(AV.int i,v)∈kvs/\Q v st)\/(AV.int i∉kvs.map (·.1)/\kvs.length<fG/\Q d (st.set a (.dict (kvs++[(.int i,d)]))))):y9 a kvs st Q 2 [.int i,d]
structure Qu where
 meths:List (Nat×Nat)
 init:Nat
structure mV where
 params:List Nat
 Iq:List AV
 size:Nat
 body:w_
structure U6 where
 fns:List mV
 Dt:List Qu
noncomputable abbrev zU:=AV->List AV->AS->(AV->AS->Prop)->Prop
inductive Qv (st:AS) (x:Nat) (Q:AV->AS->Prop):AV->Prop where
 |mk {a c dx:Nat} {fs:List (Nat×AV)} {u:AV} (hs:st a=some (.inst c dx fs)) (hx:fs.lookup x=some u) (q:Q u st):Qv st x Q (.ref a)
inductive yf (P:U6) (X:zU) (x:Nat) (st:AS) (E:(List AV->AS->Prop)->Prop) (Q:AV->AS->Prop):AV->Prop where
 |inst {a c dx f:Nat} {fs:List (Nat×AV)} {C:Qu} (hs:st a=some (.inst c dx fs)) (hx:fs.lookup x=none) (hC:P.Dt[c]? =some C) (hf:C.meths.lookup x=some f) (q:E λvs st=>X (.fn f) (.ref a::vs) st Q):yf P X x st E Q (.ref a)
 |list {a:Nat} {xs:List AV} (hs:st a=some (.list xs)) (hx:x=0\/x=3) (q:E λvs st=>∃xs,st a=some (.list xs)/\y8 a xs st Q x vs):yf P X x st E Q (.ref a)
 |dict {a:Nat} {kvs:List (AV×AV)} (hs:st a=some (.dict kvs)) (hx:x=1\/x=2) (q:E λvs st=>∃kvs,st a=some (.dict kvs)/\y9 a kvs st Q x vs):yf P X x st E Q (.ref a)
inductive xb (st:AS) (K:Nat->Nat->Nat->List (Nat×AV)->Prop):AV->Prop where
 |mk {a c dx:Nat} {fs:List (Nat×AV)} (hs:st a=some (.inst c dx fs)) (q:K a c dx fs):xb st K (.ref a)
inductive OR (st:AS) (v:AV) (Q:AS->Prop):AV->AV->Prop where
 |list {a:Nat} {xs:List AV} {j:Int} (hs:st a=some (.list xs)) (h0:0<=j) (hl:j.toNat<xs.length) (q:Q (st.set a (.list (xs.set j.toNat v)))):OR st v Q (.ref a) (.int j)
 |dict {a:Nat} {kvs:List (AV×AV)} {k:AV} (hs:st a=some (.dict kvs)) (hk:te k kvs) (hl:kvs.length<fG) (q:Q (st.set a (.dict (dictPut kvs k v)))):OR st v Q (.ref a) k
inductive Rf (st:AS) (Q:AS->Prop):AV->AV->AV->AV->Prop where
 |mk {a b:Nat} {l h:Int} {xs ys:List AV} (ha:st a=some (.list xs)) (hb:st b=some (.list ys)) (hne:a≠b) (h0:0<=l) (h1:l<=h) (h2:h.toNat<=xs.length) (hl:xs.length+ys.length<=fG) (q:Q (st.set a (.list (xs.take l.toNat++ys++xs.drop h.toNat)))):Rf st Q (.ref a) (.ref b) (.int l) (.int h)
section
variable (P:U6) (X:zU)
mutual
noncomputable def VE:CE->MM->AS->(AV->AS->Prop)->Prop
 | .var i,m,st,Q=>∃v,m[i]? =some (some v)/\Q v st
 | .cst v,_,st,Q=>Q v st
 | .tup es,m,st,Q=>Ir es m st λvs st=>Q (.tup vs) st
 | .lst es,m,st,Q=>Ir es m st λvs st=>∀c,st.free c->Q (.ref c) (st.set c (.list vs))
 | .bin o a b,m,st,Q=>VE a m st λv st=>VE b m st λw st=>Am st Q o v w
 | .neg a,m,st,Q=>VE a m st λv st=>G_ (λi=>Q (.int (-i)) st) v
 | .not a,m,st,Q=>VE a m st λv st=>∃b,nQ st v b/\Q (.bool (!b)) st
 | .and a b,m,st,Q=>VE a m st λv st=>∃t,nQ st v t/\if t then VE b m st Q else Q v st
 | .or a b,m,st,Q=>VE a m st λv st=>∃t,nQ st v t/\if t then Q v st else VE b m st Q
 | .cmp a o b,m,st,Q=>VE a m st λv st=>VE b m st λw st=>pR st (λr=>Q (.bool r) st) o v w
 | .EV a o b p c,m,st,Q=>VE a m st λv st=>VE b m st λw st=>pR st (λr=>
  if r then VE c m st λu st=>pR st (λr=>Q (.bool r) st) p w u else Q (.bool false) st) o v w
 | .ite c a b,m,st,Q=>VT c (VE c) m st λt st=>if t then VE a m st Q else VE b m st Q
 | .attr e x,m,st,Q=>VE e m st λv st=>Qv st x Q v
 | .sub e i,m,st,Q=>VE e m st λv st=>VE i m st λk st=>zE st Q v k
 | .t_ e lo hi,m,st,Q=>VE e m st λv st=>VE lo m st λl st=>VE hi m st λh st=>G' st Q v l h
 | .rev e,m,st,Q=>VE e m st λv st=>OP st Q v
 | .call f es,m,st,Q=>VE f m st λfv st=>Ir es m st λvs st=>X fv vs st Q
 | .fO o x es,m,st,Q=>VE o m st λov st=>yf P X x st (λK=>Ir es m st K) Q ov
 | .comp caps elt tgt iter conds rest,m,st,Q=>
  VE iter m st λv st=>om st (λit xs=>
   xs.foldr (λx k acc st=>it.ok st/\∃m',jI tgt x (caps.map λc=>c.bind λj=>(m[j]?).join)=some m'/\LA conds m' st λt st=>if t then VG (VE elt) rest m' acc st k else k acc st)
   (λacc st=>it.ok st/\∀c,st.free c->Q (.ref c) (st.set c (.list acc))) [] st) v
 | .dict es,m,st,Q=>Ir es m st λvs st=>∃kvs:List (Int×AV),vs=Cn kvs/\(kvs.map (·.1)).Nodup/\∀c,st.free c->Q (.ref c) (st.set c (.dict (kvs.map λp=>(.int p.1,p.2))))
 | .EW e body,m,st,Q=>VE e m st λv st=>pq st (λxs=>xs.length<6/\
  ∃key:AV->AV,(∀x∈xs,∀Q',Q' (key x) st->VE body [some x] st Q')/\q0 (xs.map key)/\(xs.Pairwise λa b=>Lt (key a) (key b)\/Lt (key b) (key a))/\
  ∃ys,ys.Perm xs/\(ys.Pairwise λa b=>Lt (key a) (key b))/\∀c,st.free c->Q (.ref c) (st.set c (.list ys))) v
noncomputable def Ir:wL->MM->AS->(List AV->AS->Prop)->Prop
 | .nil,_,st,Q=>Q [] st
 | .cons e r,m,st,Q=>VE e m st λv st=>Ir r m st λvs st=>Q (v::vs) st
noncomputable def VT:CE->(MM->AS->(AV->AS->Prop)->Prop)->MM->AS->(Bool->AS->Prop)->Prop
 | .not a,_,m,st,Q=>VT a (VE a) m st λb st=>Q (!b) st
 | .and a b,_,m,st,Q=>VT a (VE a) m st λt st=>if t then VT b (VE b) m st Q else Q false st
 | .or a b,_,m,st,Q=>VT a (VE a) m st λt st=>if t then Q true st else VT b (VE b) m st Q
 | .ite c a b,_,m,st,Q=>VT c (VE c) m st λt st=>if t then VT a (VE a) m st Q else VT b (VE b) m st Q
 |_,W,m,st,Q=>W m st λv st=>∃b,nQ st v b/\Q b st
noncomputable def LA:wL->MM->AS->(Bool->AS->Prop)->Prop
 | .nil,_,st,Q=>Q true st
 | .cons e r,m,st,Q=>VT e (VE e) m st λt st=>if t then LA r m st Q else Q false st
noncomputable def VG (W:MM->AS->(AV->AS->Prop)->Prop):Gens->MM->List AV->AS->(List AV->AS->Prop)->Prop
 | .nil,m,acc,st,K=>W m st λv st=>acc.length<fG/\K (acc++[v]) st
 | .cons tgt iter conds rest,m,acc,st,K=>
  rest= .nil/\VE iter m st λv st=>om st (λit xs=>
   xs.foldr (λx k acc st=>it.ok st/\∃m',jI tgt x (Oo tgt m)=some m'/\LA conds m' st λt st=>if t then VG W rest m' acc st k else k acc st)
   (λacc st=>it.ok st/\K acc st) acc st) v
end
mutual
noncomputable def VS:CS->MM->AS->(Fl->MM->AS->Prop)->Prop
 | .asg i e,m,st,Q=>VE P X e m st λv st=>Q .next (m.set i (some v)) st
 | .td is e,m,st,Q=>VE P X e m st λv st=>∃xs m',v= .tup xs/\jI is (.tup xs) m=some m'/\2<=is.length/\Q .next m' st
 | .iE o x e,m,st,Q=>VE P X e m st λv st=>VE P X o m st λov st=>xb st (λa c dx fs=>Q .next m (st.set a (.inst c dx (iB fs x v)))) ov
 | .EX o x o' x' e,m,st,Q=>VE P X e m st λv st=>∃v1 v2,v= .tup [v1,v2]/\VE P X o m st λov st=>xb st (λa c dx fs=>
  VE P X o' m (st.set a (.inst c dx (iB fs x v1))) λov' st=>xb st (λa' c' dx' fs'=>Q .next m (st.set a' (.inst c' dx' (iB fs' x' v2)))) ov') ov
 | .ua o i e,m,st,Q=>VE P X e m st λv st=>VE P X o m st λov st=>VE P X i m st λk st=>OR st v (Q .next m) ov k
 | .Lz o lo hi e,m,st,Q=>VE P X e m st λv st=>VE P X o m st λov st=>VE P X lo m st λl st=>VE P X hi m st λh st=>Rf st (Q .next m) ov v l h
 | .ex e,m,st,Q=>VE P X e m st λ_ st=>Q .next m st
 | .ret e,m,st,Q=>VE P X e m st λv st=>Q (.ret v) m st
 | .iff c a b,m,st,Q=>VT P X c (VE P X c) m st λt st=>if t then js a m st Q else js b m st Q
 | .EY c b,m,st,Q=>∃n:Nat,N7 (motive:=λ_=>MM->AS->Prop) (λ_ _=>False)
  (λ_ k m st=>VT P X c (VE P X c) m st λt st=>if t then js b m st λfl m st=>(match fl with | .next=>k m st | .brk=>Q .next m st | .ret v=>Q (.ret v) m st) else Q .next m st) n m st
 | .kj tgt e b,m,st,Q=>VE P X e m st λv st=>om st (λit xs=>
  xs.foldr (λx k m st=>it.ok st/\∃m',jI tgt x m=some m'/\js b m' st λfl m st=>(match fl with | .next=>k m st | .brk=>Q .next m st | .ret v=>Q (.ret v) m st))
  (λm st=>it.ok st/\Q .next m st) m st) v
 | .brk,m,st,Q=>Q .brk m st
noncomputable def js:w_->MM->AS->(Fl->MM->AS->Prop)->Prop
 | .nil,m,st,Q=>Q .next m st
 | .cons s r,m,st,Q=>VS s m st λfl m st=>(match fl with | .next=>js r m st Q |fl=>Q fl m st)
end
end
noncomputable def bindArgs (f:mV) (args:List AV):Option MM:=
 let vs:=args++f.Iq.drop (args.length+f.Iq.length -f.params.length)
 if vs.length=f.params.length/\args.length<=f.params.length then some ((f.params.zip vs).foldl (λm p=>m.set p.1 (some p.2)) (gn f.size none)) else none
noncomputable def y_:Fl->AV
 | .ret v=>v
 |_=>.none
noncomputable def eF (P:U6):Nat->zU
 |0,_,_,_,_=>False
 |n+1,f,args,st,Q=>match f with
  | .fn k=>2<=n/\∃F m,P.fns[k]? =some F/\bindArgs F args=some m/\js P (eF P n) F.body m st λfl _ st'=>∃st₂,AS.le st₂ st'/\Q (y_ fl) st₂
  | .cls c=>∃C,P.Dt[c]? =some C/\∀a dx,st.free a->st.free dx->a≠dx->eF P n (.fn C.init) (.ref a::args) (st.set a (.inst c dx [])) λv st'=>v= .none/\Q (.ref a) st'
  | .bi b=>Ip b args st Q
  |_=>False
end
open Mine.AS renaming le->eC,set->tS
open PySem PySem.W PySem.Calls PyProof.Rows PySem.SeqAt PySem.Spec
variable {ao cE:j9} {e8:List (j9×h)}
variable {bB:List j9}
variable {a0:gg}
variable {r:gq} {az:List gg} {C:List Nat}
section
noncomputable def tf:Str:=⟨⟨[95,95,100,101,98,117,103,95,95]⟩⟩
noncomputable def Hb:Str:=⟨⟨[115,117,112,101,114]⟩⟩
noncomputable def JH:Str:=⟨⟨[107,101,121]⟩⟩
noncomputable def vh:Str:=⟨⟨[115,111,114,116,101,100]⟩⟩
noncomputable def WG:Str:=⟨⟨[95,95,105,110,105,116,95,95]⟩⟩
noncomputable def th:Str:=⟨⟨[95,95,99,108,97,115,115,100,105,99,116,95,95]⟩⟩
noncomputable def WH:Str:=⟨⟨[95,95,110,97,109,101,95,95]⟩⟩
noncomputable def AT:List Str:=[⟨⟨[97,112,112,101,110,100]⟩⟩,
 ⟨⟨[103,101,116]⟩⟩,
 ⟨⟨[115,101,116,100,101,102,97,117,108,116]⟩⟩,
 ⟨⟨[112,111,112]⟩⟩,
 ⟨⟨[99,108,97,115,115,95,111,102]⟩⟩,
 ⟨⟨[116,111,108,100]⟩⟩,
 ⟨⟨[103,108,121,112,104,115]⟩⟩,
 ⟨⟨[110,101,120,116,95,108,105,103]⟩⟩,
 ⟨⟨[97,100,100]⟩⟩,
 ⟨⟨[115,116,97,116,101,95,99,111,117,110,116]⟩⟩,
 ⟨⟨[115,116,101,112]⟩⟩,
 ⟨⟨[105,115,95,111,112,101,110]⟩⟩,
 ⟨⟨[100,101,99,105,100,101]⟩⟩,
 ⟨⟨[102,101,101,100]⟩⟩,
 ⟨⟨[102,105,110,105,115,104]⟩⟩,
 ⟨⟨[103,108,121,112,104,95,99,108,97,115,115]⟩⟩,
 ⟨⟨[97,116,116,97,99,104,95,99,108,97,115,115]⟩⟩,
 ⟨⟨[105,115,95,105,110,95,115,101,116]⟩⟩,
 ⟨⟨[104,97,115]⟩⟩,
 ⟨⟨[99,111,117,110,116]⟩⟩,
 ⟨⟨[103,108,121,112,104,115,95,111,102]⟩⟩,
 ⟨⟨[99,111,112,105,101,100]⟩⟩,
 ⟨⟨[99,108,117,115,116,101,114,115]⟩⟩,
 ⟨⟨[110,101,120,116,95,115,112,108,105,116]⟩⟩,
 ⟨⟨[108,105,103,95,105,100]⟩⟩,
 ⟨⟨[108,105,103,95,112,97,114,116]⟩⟩,
 ⟨⟨[108,105,103,95,99,111,117,110,116]⟩⟩,
 ⟨⟨[98,117,102,102,101,114]⟩⟩,
 ⟨⟨[114,111,119]⟩⟩,
 ⟨⟨[103,108,121,112,104]⟩⟩,
 ⟨⟨[115,112,108,105,116,95,105,100]⟩⟩,
 ⟨⟨[105,115,95,117,110,115,97,102,101]⟩⟩,
 ⟨⟨[115,116,101,112,115]⟩⟩,
 ⟨⟨[99,108,97,115,115,101,115]⟩⟩,
 ⟨⟨[99,111,100,101]⟩⟩,
 ⟨⟨[99,108,117,115,116,101,114]⟩⟩,
 ⟨⟨[109,97,115,107]⟩⟩,
 ⟨⟨[107,105,110,100]⟩⟩,
 ⟨⟨[120,95,97,100,118,97,110,99,101]⟩⟩,
 ⟨⟨[121,95,97,100,118,97,110,99,101]⟩⟩,
 ⟨⟨[120,95,111,102,102,115,101,116]⟩⟩,
 ⟨⟨[121,95,111,102,102,115,101,116]⟩⟩,
 ⟨⟨[112,97,114,101,110,116]⟩⟩,
 ⟨⟨[98,111,110,100]⟩⟩,
 ⟨⟨[105,115,95,98,97,99,107,119,97,114,100]⟩⟩,
 ⟨⟨[108,97,115,116,95,108,105,103]⟩⟩,
 ⟨⟨[108,97,115,116,95,115,112,108,105,116]⟩⟩,
 ⟨⟨[102,108,97,103]⟩⟩,
 ⟨⟨[109,97,114,107,95,115,101,116]⟩⟩,
 ⟨⟨[116,97,98,108,101,115]⟩⟩,
 ⟨⟨[103,100,101,102]⟩⟩,
 ⟨⟨[108,111,111,107,117,112,115]⟩⟩,
 ⟨⟨[108,111,111,107,117,112]⟩⟩,
 ⟨⟨[100,101,112,116,104]⟩⟩,
 ⟨⟨[115,101,116,115]⟩⟩,
 ⟨⟨[101,110,100,115]⟩⟩,
 ⟨⟨[116,114,105,101]⟩⟩,
 ⟨⟨[104,101,108,100]⟩⟩,
 ⟨⟨[114,111,119,115]⟩⟩,
 ⟨⟨[97,116,116,97,99,104]⟩⟩,
 ⟨⟨[112,111,105,110,116,115]⟩⟩,
 ⟨⟨[99,97,114,101,116,115]⟩⟩]
noncomputable def r9:List j9->j9->Option Nat
 |[],_=>none
 |y::r,x=>if x=y then some 0 else (r9 r x).map (·+1)
noncomputable def ic {α:Type}:List (j9×α)->j9->Option α
 |[],_=>none
 |(y,v)::r,x=>if x=y then some v else ic r x
theorem ti:ic ((ao,dn)::e8) cE=if cE=ao then some dn else ic e8 cE:=rfl
theorem Cp:r9 (ao::bB) cE=if cE=ao then some 0 else (r9 bB cE).map (·+1):=rfl
@[elab_as_elim] noncomputable def rF {M:gg->Type} (k:Nat) (e:gg) (f:Expr.ctorElimType.{1} (motive_1:=M) k) (g:M e):M e:=if h:k=e.ctorIdx then Expr.ctorElim k e h f else g
noncomputable def EZ (e:gg):Option Str:=rF (M:=λ_=>Option j9) 23 e ⟨λx _=>some x⟩ none
theorem Cq (h:EZ a0=some ao):∃p,a0= .Name ao p:=by
 rcases a0 with ⟨⟩<;>first |contradiction |skip
 exact oq _ (congrArg (Expr.Name · _) (d5 h))
noncomputable def isVar:vD->Bool
 | .local=>true
 | .cell=>true
 | .free=>true
 |_=>false
noncomputable def Qw:vD->Bool
 | .local=>true
 | .cell=>true
 |_=>false
noncomputable abbrev gq:=List (j9×vD)
noncomputable def slots (ns:gq):List Str:=(ns.filter λx=>isVar x.2).map (·.1)
noncomputable def TA:Operator->Option Sr
 | .Add=>some .add
 | .Sub=>some .sub
 | .Mult=>some .mul
 | .Mod=>some .mod
 | .FloorDiv=>some .fdiv
 | .BitAnd=>some .band
 |_=>none
noncomputable def zF:Ez->Om
 | .Eq=>.eq | .NotEq=>.ne | .Lt=>.lt | .LtE=>.le | .Gt=>.gt | .GtE=>.ge | .Is=>.Ss | .IsNot=>.Tr | .In=>.Tq | .NotIn=>.Ck
noncomputable def LD:Const->Option AV
 | .int i=>some (.int i)
 | .str s=>some (.str s.cps.toList)
 | .bool b=>some (.bool b)
 | .none=>some .none
 |_=>none
noncomputable def wL.len:wL->Nat
 | .nil=>0
 | .cons _ r=>r.len+1
section
variable (G:List (j9×AV))
noncomputable def uB (ns:gq) (x:j9):Option CE:=
 if x=tf then none else match ic ns x with
  |some .globalImplicit=>(ic G x).map .cst
  |some k=>if isVar k then (r9 (slots ns) x).map .var else none
  |none=>none
theorem Cr {ns:gq} {x:j9} {c:CE} (h:uB G ns x=some c):¬x=tf/\((ic ns x=some .globalImplicit/\∃v,ic G x=some v/\c= .cst v)\/∃k i,ic ns x=some k/\(k= .local\/k= .cell\/k= .free)/\r9 (slots ns) x=some i/\c= .var i):=by
 unfold uB at h
 by_cases hd:x=tf
 .rw [if_pos hd] at h;contradiction
 .rw [if_neg hd] at h
  refine ⟨hd,?_⟩
  induction q:ic ns x with
  |none=>rw [q] at h;contradiction
  |some k=>
   rw [q] at h
   have m:∀k:vD,(r9 (slots ns) x).map CE.var=some c->k= .local\/k= .cell\/k= .free->(some k=some .globalImplicit/\∃v,ic G x=some v/\c= .cst v)\/∃k' i,some k=some k'/\(k'= .local\/k'= .cell\/k'= .free)/\r9 (slots ns) x=some i/\c= .var i:=λk h o=>.inr (eS (fX.mp h) λi a b=>⟨k,i,rfl,o,a,b.symm⟩)
   induction k using Ia with
   |globalImplicit=>exact .inl ⟨rfl,eS (fX.mp h) λv a b=>⟨v,a,b.symm⟩⟩
   |«local»=>exact m _ h (.inl rfl)
   |cell=>exact m _ h (.inr (.inl rfl))
   |free=>exact m _ h (.inr (.inr rfl))
   |_=>contradiction
noncomputable def ot (ns:gq) (x:j9):Option Nat:=match ic ns x with
 |some k=>if Qw k then r9 (slots ns) x else none
 |none=>none
noncomputable def uC (ns:gq):List gg->Option (List Nat)
 |[]=>some []
 |e::r=>((EZ e).bind (ot ns)).bind λi=>(uC ns r).map (i::·)
theorem tj (h:uC r (a0::az)=some C):∃x p i a,ot r x=some i/\uC r az=some a/\a0= .Name x p/\C=i::a:=
 eS (jn.mp h) λi b c=>eS (jn.mp b) λx j e=>kf (Cq j) λp g=>eS (fX.mp c) λa d f=>⟨x,p,i,a,e,d,g,f.symm⟩
noncomputable def An (ns:gq) (e:gg):Option (List Nat):=rF (M:=λ_=>Option (List Nat)) 23 e ⟨λx _=>(ot ns x).map ([·])⟩
 (rF (M:=λ_=>Option (List Nat)) 25 e ⟨λes _ _=>(uC ns es).bind λl=>if 2<=l.length then some l else none⟩ none)
noncomputable def xc (e:gg):Bool:=!(e.ctorIdx==22||e.ctorIdx==7||e.ctorIdx==9||e.ctorIdx==10)
noncomputable def Ao:List gg->Bool
 |[]=>true
 |e::r=>xc e&&Ao r
noncomputable def qo (ns ms:gq):List (Option Nat):=(slots ms).map λx=>if ic ms x=some .free then r9 (slots ns) x else none
noncomputable def yg (ns:gq) (e:gg):Bool:=decide (EZ e=some vh)&&decide (ic ns vh=some .globalImplicit)
noncomputable def TB:Str:=⟨⟨[115,101,116,115]⟩⟩
noncomputable def LF:Str:=⟨⟨[119,111,114,100,115,95,111,102]⟩⟩
noncomputable def BR (ns:gq):Bool:=decide (ic ns TB=some .local)&&decide (ic ns LF=some .globalImplicit)
noncomputable def Ap (sc:Es):Bool:=decide (sc.kind= .function)&&!sc.isGenerator&&!sc.isCoroutine&&decide (sc.names.map (·.1)).Nodup&&!decide (th∈sc.names.map (·.1))
noncomputable def Du (sc:Es):Bool:=Ap sc&&!BR sc.names
noncomputable def q5 (ns:gq):gq->Bool
 |[]=>true
 |(x,k)::r=>(match k with
  | .free=>(match ic ns x with |some .cell=>true |some .free=>true |_=>false)
  |_=>true)&&q5 ns r
noncomputable def Hc (sc:Es):List Arg->Bool
 |[x]=>x.annotation.isNone&&decide (slots sc.names=[x.arg])&&decide (ic sc.names x.arg=some .local)
 |_=>false
noncomputable def Ct (a:y4) (sc:Es):Bool:=a.posonlyargs.isEmpty&&a.vararg.isNone&&a.kwonlyargs.isEmpty&&a.kw_defaults.isEmpty&&a.kwarg.isNone&&a.defaults.isEmpty&&Du sc&&q5 [] sc.names&&Hc sc a.args
noncomputable def Iu (e:gg):Bool:=e.ctorIdx==16
noncomputable def E0 (t e:gg):Bool:=rF (M:=λ_=>Bool) 25 t ⟨λ_ _ _=>rF (M:=λ_=>Bool) 25 e ⟨λvs _ _=>vs.any λe=>!GW 8 e⟩ true⟩ true
noncomputable abbrev argNames (as:List Arg):List Str:=as.map (·.arg)
noncomputable def Dv (l:List j9):List j9->Option (List Nat)
 |[]=>some []
 |x::r=>(r9 l x).bind λi=>(Dv l r).map (i::·)
end
structure Def where
 params:y4
 body:List zw
 scope:Es
noncomputable def noFn:mV:=⟨[],[],0,.cons (.ex (.var 0)) .nil⟩
end
noncomputable def GG:List (j9×AV):=[(⟨⟨[95,119,97,108,108]⟩⟩,.fn 0),(⟨⟨[67,108,97,115,115,68,101,102]⟩⟩,.cls 0),(⟨⟨[73,110,102,111]⟩⟩,.cls 1),(⟨⟨[66,117,102,102,101,114]⟩⟩,.cls 2),(⟨⟨[115,101,116,95,99,108,117,115,116,101,114]⟩⟩,.fn 15),(⟨⟨[119,105,100,101,110,101,100]⟩⟩,.fn 16),(⟨⟨[109,101,114,103,101]⟩⟩,.fn 17),(⟨⟨[73,71,78,79,82,69,95,66,65,83,69,83]⟩⟩,.int 2),(⟨⟨[73,71,78,79,82,69,95,76,73,71,65,84,85,82,69,83]⟩⟩,.int 4),(⟨⟨[73,71,78,79,82,69,95,77,65,82,75,83]⟩⟩,.int 8),(⟨⟨[85,83,69,95,83,69,84]⟩⟩,.int 16),(⟨⟨[76,111,111,107,117,112]⟩⟩,.cls 3),(⟨⟨[83,99,101,110,101]⟩⟩,.cls 4),(⟨⟨[97,116,116,97,99,104,95,119,97,110,116,101,100]⟩⟩,.fn 21),(⟨⟨[99,108,97,115,115,95,98,105,116]⟩⟩,.fn 22),(⟨⟨[105,115,95,105,103,110,111,114,101,100]⟩⟩,.fn 23),(⟨⟨[112,97,115,115,101,115]⟩⟩,.fn 24),(⟨⟨[75,73,78,68,83,95,73,78,95,73,78,80,85,84]⟩⟩,.tup [.str [122,119,106],.str [104,105,100,100,101,110]]),(⟨⟨[103,108,121,112,104,95,116,101,115,116,115]⟩⟩,.fn 25),(⟨⟨[102,105,116,115]⟩⟩,.fn 26),(⟨⟨[105,115,95,98,111,114,110,101]⟩⟩,.fn 27),(⟨⟨[102,111,117,110,100,95,97,116]⟩⟩,.fn 28),(⟨⟨[105,110,112,117,116,95,97,116]⟩⟩,.fn 29),(⟨⟨[105,115,95,112,105,101,99,101]⟩⟩,.fn 30),(⟨⟨[104,111,108,100,95,116,111,103,101,116,104,101,114]⟩⟩,.fn 31),(⟨⟨[66,65,83,69,95,108,105,103,97,116,117,114,101]⟩⟩,.int 1),(⟨⟨[77,65,82,75]⟩⟩,.int 3),(⟨⟨[98,101,103,105,110,115,95,119,105,116,104]⟩⟩,.fn 32),(⟨⟨[108,105,118,101,95,114,111,119,115]⟩⟩,.fn 33),(⟨⟨[76,105,103,97,116,117,114,101]⟩⟩,.cls 5),(⟨⟨[112,97,114,116,95,99,111,117,110,116]⟩⟩,.fn 36),(⟨⟨[119,97,121,95,111,102]⟩⟩,.fn 37),(⟨⟨[116,105,101]⟩⟩,.fn 38),(⟨⟨[116,105,101,95,98,101,104,105,110,100]⟩⟩,.fn 39),(⟨⟨[116,105,101,95,97,108,108]⟩⟩,.fn 40),(⟨⟨[106,111,105,110]⟩⟩,.fn 41),(⟨⟨[97,112,112,108,121,95,108,105,103,97,116,117,114,101]⟩⟩,.fn 42),(⟨⟨[78,79,78,69]⟩⟩,.int (-1)),(⟨⟨[84,114,105,101]⟩⟩,.cls 6),(⟨⟨[116,114,105,101,95,111,102]⟩⟩,.fn 47),(⟨⟨[119,111,114,100,115,95,111,102]⟩⟩,.fn 48),(⟨⟨[116,97,98,108,101,95,111,102]⟩⟩,.fn 49),(⟨⟨[115,112,101,108,108,105,110,103,115]⟩⟩,.fn 50),(⟨⟨[108,111,110,103,101,115,116]⟩⟩,.fn 51),(⟨⟨[114,117,110,95,116,114,105,101,115]⟩⟩,.fn 52),(⟨⟨[114,117,110,95,116,114,105,101]⟩⟩,.fn 53),(⟨⟨[70,101,101,100,101,114]⟩⟩,.cls 7),(⟨⟨[108,101,97,115,116,95,116,114,105,101]⟩⟩,.fn 59),(⟨⟨[105,110,95,98,114,101,97,100,116,104]⟩⟩,.fn 60),(⟨⟨[83,116,97,116,101,84,97,98,108,101]⟩⟩,.cls 8),(⟨⟨[99,111,108,117,109,110,115,95,111,102]⟩⟩,.fn 63),(⟨⟨[115,116,97,116,101,95,116,97,98,108,101]⟩⟩,.fn 64),(⟨⟨[114,117,110,95,115,116,97,116,101,115]⟩⟩,.fn 65),(⟨⟨[78,79,95,67,76,65,83,83]⟩⟩,.int 0),(⟨⟨[66,65,83,69,95,103,100,101,102]⟩⟩,.int 1),(⟨⟨[67,79,77,80,79,78,69,78,84]⟩⟩,.int 4),(⟨⟨[71,100,101,102]⟩⟩,.cls 9),(⟨⟨[110,111,95,103,100,101,102]⟩⟩,.fn 71),(⟨⟨[95,108,97,119,95,100,114,97,119]⟩⟩,.fn 72),(⟨⟨[95,108,97,119,95,115,101,116,115]⟩⟩,.fn 73),(⟨⟨[95,108,97,119,95,119,111,114,100,115]⟩⟩,.fn 74),(⟨⟨[95,108,97,119,95,114,117,110]⟩⟩,.fn 75),(⟨⟨[95,108,97,119,95,97,112,112,108,105,101,100]⟩⟩,.fn 76),(⟨⟨[95,108,97,119,95,102,101,100]⟩⟩,.fn 77),(⟨⟨[95,108,97,119,95,97,102,116,101,114]⟩⟩,.fn 78),(⟨⟨[95,108,97,119,95,115,105,122,101,115]⟩⟩,.fn 79),(⟨⟨[95,108,97,119,95,105,110,95,111,114,100,101,114]⟩⟩,.fn 80),(⟨⟨[108,97,119]⟩⟩,.fn 81),(⟨⟨[108,101,110]⟩⟩,.bi 0),(⟨⟨[115,111,114,116,101,100]⟩⟩,.bi 1),(⟨⟨[109,105,110]⟩⟩,.bi 2),(⟨⟨[109,97,120]⟩⟩,.bi 3),(⟨⟨[114,97,110,103,101]⟩⟩,.bi 4),(⟨⟨[116,117,112,108,101]⟩⟩,.bi 5),(⟨⟨[100,105,99,116]⟩⟩,.bi 6),(⟨⟨[97,110,121]⟩⟩,.bi 7),(⟨⟨[97,98,115]⟩⟩,.bi 8),(⟨⟨[105,110,116]⟩⟩,.bi 9),(⟨⟨[108,105,115,116]⟩⟩,.bi 10)]
noncomputable def c1:mV:=⟨[0,1],[],2,.cons (.iE (.var 0) 33 (.var 1)) .nil⟩
noncomputable def c2:mV:=⟨[0,1],[],2,.cons (.ret (.fO (.attr (.var 0) 33) 1 (.cons (.var 1) (.cons (.cst (.int 0)) .nil)))) .nil⟩
noncomputable def c5:mV:=⟨[0],[],1,.cons (.ret (.call (.cst (.bi 5)) (.cons (.comp [none,none,some 0] (.tup (.cons (.var 1) (.cons (.sub (.attr (.var 2) 33) (.var 1)) .nil))) [1] (.call (.cst (.bi 1)) (.cons (.attr (.var 0) 33) .nil)) .nil .nil) .nil))) .nil⟩
noncomputable def c6:mV:=⟨[0,1,2,3],[],4,.cons (.iE (.var 0) 34 (.var 1)) (.cons (.iE (.var 0) 29 (.var 2)) (.cons (.iE (.var 0) 35 (.var 3)) (.cons (.iE (.var 0) 36 (.cst (.int 0))) (.cons (.iE (.var 0) 31 (.cst (.bool false))) (.cons (.iE (.var 0) 24 (.cst (.int 0))) (.cons (.iE (.var 0) 25 (.cst (.int 0))) (.cons (.iE (.var 0) 26 (.cst (.int 0))) (.cons (.iE (.var 0) 30 (.cst (.int 0))) (.cons (.iE (.var 0) 37 (.cst (.str []))) (.cons (.iE (.var 0) 38 (.cst (.int 0))) (.cons (.iE (.var 0) 39 (.cst (.int 0))) (.cons (.iE (.var 0) 40 (.cst (.int 0))) (.cons (.iE (.var 0) 41 (.cst (.int 0))) (.cons (.iE (.var 0) 42 (.cst (.int 0))) (.cons (.iE (.var 0) 43 (.cst (.str []))) .nil)))))))))))))))⟩
noncomputable def c9:mV:=⟨[0,1,2],[.bool false],3,.cons (.iE (.var 0) 28 (.var 1)) (.cons (.iE (.var 0) 44 (.var 2)) (.cons (.iE (.var 0) 45 (.cst (.int 0))) (.cons (.iE (.var 0) 46 (.cst (.int 0))) .nil)))⟩
noncomputable def TC:mV:=⟨[0],[],1,.cons (.ret (.comp [none,none] (.attr (.var 1) 29) [1] (.attr (.var 0) 28) .nil .nil)) .nil⟩
noncomputable def XU:mV:=⟨[0],[],1,.cons (.iE (.var 0) 45 (.bin .add (.attr (.var 0) 45) (.cst (.int 1)))) (.cons (.ret (.attr (.var 0) 45)) .nil)⟩
noncomputable def XW:mV:=⟨[0,1],[],2,.cons (.iff (.cmp (.attr (.var 0) 35) .ne (.var 1)) (.cons (.iE (.var 0) 35 (.var 1)) (.cons (.iE (.var 0) 31 (.cst (.bool false))) .nil)) .nil) .nil⟩
noncomputable def XX:mV:=⟨[0,1,2],[],5,.cons (.asg 3 (.var 1)) (.cons (.asg 4 (.var 2)) (.cons (.EY (.and (.cmp (.var 4) .lt (.call (.cst (.bi 0)) (.cons (.var 0) .nil))) (.cmp (.attr (.sub (.var 0) (.var 4)) 35) .eq (.attr (.sub (.var 0) (.bin .sub (.var 4) (.cst (.int 1)))) 35))) (.cons (.asg 4 (.bin .add (.var 4) (.cst (.int 1)))) .nil)) (.cons (.EY (.and (.cmp (.var 3) .gt (.cst (.int 0))) (.cmp (.attr (.sub (.var 0) (.bin .sub (.var 3) (.cst (.int 1)))) 35) .eq (.attr (.sub (.var 0) (.var 3)) 35))) (.cons (.asg 3 (.bin .sub (.var 3) (.cst (.int 1)))) .nil)) (.cons (.ret (.tup (.cons (.var 3) (.cons (.var 4) .nil)))) .nil))))⟩
noncomputable def XY:mV:=⟨[0,1,2],[],7,.cons (.iff (.cmp (.bin .sub (.var 2) (.var 1)) .lt (.cst (.int 2))) (.cons (.ret (.cst .none)) .nil) .nil) (.cons (.asg 4 (.call (.cst (.bi 2)) (.cons (.comp [none,none] (.attr (.var 1) 35) [1] (.t_ (.attr (.var 0) 28) (.var 1) (.var 2)) .nil .nil) .nil))) (.cons (.td [5,6] (.call (.cst (.fn 16)) (.cons (.attr (.var 0) 28) (.cons (.var 1) (.cons (.var 2) .nil))))) (.cons (.kj [3] (.t_ (.attr (.var 0) 28) (.var 5) (.var 6)) (.cons (.ex (.call (.cst (.fn 15)) (.cons (.var 3) (.cons (.var 4) .nil)))) .nil)) .nil)))⟩
noncomputable def XZ:mV:=⟨[0,1,2,3,4],[],5,.cons (.iE (.var 0) 37 (.var 1)) (.cons (.iE (.var 0) 47 (.var 2)) (.cons (.iE (.var 0) 48 (.var 3)) (.cons (.iE (.var 0) 49 (.var 4)) .nil)))⟩
noncomputable def X0:mV:=⟨[0,1,2,3,4,5,6],[.int 0],7,.cons (.iE (.var 0) 27 (.var 1)) (.cons (.iE (.var 0) 50 (.var 2)) (.cons (.iE (.var 0) 51 (.var 3)) (.cons (.iE (.var 0) 52 (.var 4)) (.cons (.iE (.var 0) 36 (.var 5)) (.cons (.iE (.var 0) 53 (.var 6)) (.cons (.iE (.var 0) 32 (.lst (.cons (.cst (.int 0)) .nil))) .nil))))))⟩
noncomputable def X1:mV:=⟨[0],[],1,.cons (.ret (.fO (.dict (.cons (.cst (.int 1)) (.cons (.cst (.int 2)) (.cons (.cst (.int 2)) (.cons (.cst (.int 4)) (.cons (.cst (.int 3)) (.cons (.cst (.int 8)) .nil))))))) 1 (.cons (.var 0) (.cons (.cst (.int 0)) .nil)))) .nil⟩
noncomputable def X2:mV:=⟨[0,1,2],[],5,.cons (.asg 3 (.fO (.var 0) 15 (.cons (.var 2) .nil))) (.cons (.iff (.bin .band (.attr (.var 1) 47) (.call (.cst (.fn 22)) (.cons (.var 3) .nil))) (.cons (.ret (.cst (.bool true))) .nil) .nil) (.cons (.iff (.cmp (.var 3) .ne (.cst (.int 3))) (.cons (.ret (.cst (.bool false))) .nil) .nil) (.cons (.iff (.bin .band (.attr (.var 1) 47) (.cst (.int 16))) (.cons (.ret (.not (.fO (.var 0) 17 (.cons (.attr (.var 1) 48) (.cons (.var 2) .nil))))) .nil) .nil) (.cons (.asg 4 (.call (.cst (.fn 21)) (.cons (.attr (.var 1) 47) .nil))) (.cons (.ret (.and (.cmp (.var 4) .gt (.cst (.int 0))) (.cmp (.fO (.var 0) 16 (.cons (.var 2) .nil)) .ne (.var 4)))) .nil)))))⟩
noncomputable def X3:mV:=⟨[0,1],[],2,.cons (.ret (.call (.cst (.fn 23)) (.cons (.attr (.var 0) 50) (.cons (.attr (.var 0) 52) (.cons (.attr (.sub (.attr (.attr (.var 0) 27) 28) (.var 1)) 29) .nil))))) .nil⟩
noncomputable def X4:mV:=⟨[0],[],1,.cons (.ret (.call (.cst (.bi 5)) (.cons (.comp [none,none] (.tup (.cons (.cst (.str [103,108,121,112,104])) (.cons (.var 1) .nil))) [1] (.var 0) .nil .nil) .nil))) .nil⟩
noncomputable def VO:mV:=⟨[0,1],[],2,.cons (.iff (.cmp (.sub (.var 0) (.cst (.int 0))) .eq (.cst (.str [103,108,121,112,104]))) (.cons (.ret (.cmp (.sub (.var 0) (.cst (.int 1))) .eq (.var 1))) .nil) .nil) (.cons (.iff (.cmp (.sub (.var 0) (.cst (.int 0))) .eq (.cst (.str [99,108,97,115,115]))) (.cons (.ret (.cmp (.fO (.sub (.var 0) (.cst (.int 1))) 4 (.cons (.var 1) .nil)) .eq (.sub (.var 0) (.cst (.int 2))))) .nil) .nil) (.cons (.ret (.fO (.sub (.var 0) (.cst (.int 1))) 18 (.cons (.var 1) .nil))) .nil))⟩
noncomputable def X5:mV:=⟨[0,1],[],2,.cons (.ret (.cmp (.bin .band (.attr (.var 1) 36) (.attr (.var 0) 36)) .ne (.cst (.int 0)))) .nil⟩
noncomputable def X6:mV:=⟨[0,1,2,3,4,5],[],8,.cons (.asg 6 (.bin .add (.var 1) (.var 2))) (.cons (.EY (.EV (.cst (.int 0)) .le (.var 6) .lt (.call (.cst (.bi 0)) (.cons (.attr (.attr (.var 0) 27) 28) .nil))) (.cons (.iff (.not (.call (.cst (.fn 24)) (.cons (.var 0) (.cons (.var 6) .nil)))) (.cons (.asg 7 (.sub (.attr (.attr (.var 0) 27) 28) (.var 6))) (.cons (.iff (.and (.call (.cst (.fn 26)) (.cons (.var 3) (.cons (.attr (.var 7) 29) .nil))) (.or (.call (.cst (.fn 27)) (.cons (.var 0) (.cons (.var 7) .nil))) (.not (.var 5)))) (.cons (.ret (.var 6)) .nil) .nil) (.cons (.iff (.cmp (.attr (.var 7) 37) .Ck (.var 4)) (.cons (.ret (.neg (.cst (.int 1)))) .nil) .nil) .nil))) .nil) (.cons (.asg 6 (.bin .add (.var 6) (.var 2))) .nil))) (.cons (.ret (.neg (.cst (.int 1)))) .nil))⟩
noncomputable def X7:mV:=⟨[0,1,2],[],6,.cons (.iff (.not (.call (.cst (.fn 26)) (.cons (.sub (.var 2) (.cst (.int 0))) (.cons (.attr (.sub (.attr (.attr (.var 0) 27) 28) (.var 1)) 29) .nil)))) (.cons (.ret (.cst .none)) .nil) .nil) (.cons (.asg 3 (.lst (.cons (.var 1) .nil))) (.cons (.kj [4] (.t_ (.var 2) (.cst (.int 1)) (.cst .none)) (.cons (.asg 5 (.call (.cst (.fn 28)) (.cons (.var 0) (.cons (.sub (.var 3) (.neg (.cst (.int 1)))) (.cons (.cst (.int 1)) (.cons (.var 4) (.cons (.cst (.tup [.str [122,119,106],.str [104,105,100,100,101,110]])) (.cons (.cst (.bool true)) .nil)))))))) (.cons (.iff (.cmp (.var 5) .lt (.cst (.int 0))) (.cons (.ret (.cst .none)) .nil) .nil) (.cons (.ex (.fO (.var 3) 0 (.cons (.var 5) .nil))) .nil)))) (.cons (.ret (.var 3)) .nil)))⟩
noncomputable def X8:mV:=⟨[0],[],1,.cons (.ret (.and (.cmp (.attr (.var 0) 24) .ne (.cst (.int 0))) (.cmp (.attr (.var 0) 25) .ne (.cst (.int 0))))) .nil⟩
noncomputable def X9:mV:=⟨[0,1],[],5,.cons (.asg 2 (.sub (.var 0) (.sub (.var 1) (.cst (.int 0))))) (.cons (.kj [3] (.t_ (.var 1) (.cst (.int 1)) (.cst .none)) (.cons (.asg 4 (.sub (.var 0) (.var 3))) (.cons (.iff (.call (.cst (.fn 30)) (.cons (.var 2) .nil)) (.cons (.iff (.cmp (.tup (.cons (.attr (.var 4) 24) (.cons (.attr (.var 4) 25) .nil))) .ne (.tup (.cons (.attr (.var 2) 24) (.cons (.attr (.var 2) 25) .nil)))) (.cons (.ret (.cst (.bool false))) .nil) .nil) .nil) (.cons (.iff (.and (.call (.cst (.fn 30)) (.cons (.var 4) .nil)) (.cmp (.attr (.var 4) 24) .ne (.attr (.var 2) 24))) (.cons (.ret (.cst (.bool false))) .nil) .nil) .nil)) .nil))) (.cons (.ret (.cst (.bool true))) .nil))⟩
noncomputable def X':mV:=⟨[0,1],[],2,.cons (.ret (.cmp (.t_ (.var 0) (.cst .none) (.call (.cst (.bi 0)) (.cons (.var 1) .nil))) .eq (.var 1))) .nil⟩
noncomputable def X_:mV:=⟨[0],[],4,.cons (.asg 1 (.lst .nil)) (.cons (.kj [2,3] (.var 0) (.cons (.iff (.cmp (.comp [none,none,none,some 2] (.var 1) [1,2] (.var 1) (.cons (.call (.cst (.fn 32)) (.cons (.var 3) (.cons (.var 1) .nil))) .nil) .nil) .eq (.lst .nil)) (.cons (.ex (.fO (.var 1) 0 (.cons (.tup (.cons (.var 2) (.cons (.var 3) .nil))) .nil))) .nil) .nil) .nil)) (.cons (.ret (.var 1)) .nil))⟩
noncomputable def Ya:mV:=⟨[0,1],[],2,.cons (.iE (.var 0) 54 (.var 1)) .nil⟩
noncomputable def Yb:mV:=⟨[0],[],2,.cons (.asg 1 (.comp [none,none,some 0] (.tup (.cons (.var 1) (.cons (.call (.cst (.bi 5)) (.cons (.call (.cst (.bi 1)) (.cons (.call (.cst (.fn 33)) (.cons (.sub (.attr (.var 2) 54) (.var 1)) .nil)) .nil)) .nil)) .nil))) [1] (.call (.cst (.bi 1)) (.cons (.attr (.var 0) 54) .nil)) .nil .nil)) (.cons (.ret (.call (.cst (.bi 5)) (.cons (.comp [none,none] (.var 1) [1] (.var 1) (.cons (.cmp (.sub (.var 1) (.cst (.int 1))) .ne (.tup .nil)) .nil) .nil) .nil))) .nil)⟩
noncomputable def Yc:mV:=⟨[0],[],1,.cons (.ret (.call (.cst (.bi 3)) (.cons (.attr (.var 0) 26) (.cons (.cst (.int 1)) .nil)))) .nil⟩
noncomputable def Yd:mV:=⟨[0,1],[],2,.cons (.iff (.cmp (.comp [none,none,some 0] (.var 1) [1] (.t_ (.var 1) (.cst (.int 1)) (.cst .none)) (.cons (.cmp (.fO (.var 2) 15 (.cons (.var 1) .nil)) .ne (.cst (.int 3))) .nil) .nil) .ne (.lst .nil)) (.cons (.ret (.cst (.str [108,105,103,97,116,117,114,101]))) .nil) .nil) (.cons (.ret (.fO (.dict (.cons (.cst (.int 1)) (.cons (.cst (.str [98,97,115,101])) (.cons (.cst (.int 3)) (.cons (.cst (.str [109,97,114,107])) .nil))))) 1 (.cons (.fO (.var 0) 15 (.cons (.sub (.var 1) (.cst (.int 0))) .nil)) (.cons (.cst (.str [108,105,103,97,116,117,114,101])) .nil)))) .nil)⟩
noncomputable def Ye:mV:=⟨[0,1,2,3,4,5],[],7,.cons (.asg 6 (.var 1)) (.cons (.EY (.and (.cmp (.var 2) .gt (.cst (.int 0))) (.and (.cmp (.var 6) .lt (.call (.cst (.bi 0)) (.cons (.var 0) .nil))) (.and (.cmp (.attr (.sub (.var 0) (.var 6)) 24) .eq (.var 2)) (.cmp (.attr (.sub (.var 0) (.var 6)) 25) .gt (.cst (.int 0)))))) (.cons (.ex (.call (.cst (.fn 38)) (.cons (.sub (.var 0) (.var 6)) (.cons (.var 3) (.cons (.var 4) (.cons (.var 5) .nil)))))) (.cons (.asg 6 (.bin .add (.var 6) (.cst (.int 1)))) .nil))) .nil)⟩
noncomputable def Yf:mV:=⟨[0,1,2,3],[],10,.cons (.asg 4 (.sub (.var 0) (.sub (.var 1) (.cst (.int 0))))) (.cons (.td [5,6,7] (.tup (.cons (.cst (.int 0)) (.cons (.call (.cst (.fn 36)) (.cons (.var 4) .nil)) (.cons (.attr (.var 4) 24) .nil))))) (.cons (.kj [8] (.call (.cst (.bi 4)) (.cons (.cst (.int 1)) (.cons (.call (.cst (.bi 0)) (.cons (.var 1) .nil)) .nil))) (.cons (.iff (.cmp (.var 2) .eq (.cst (.str [108,105,103,97,116,117,114,101]))) (.cons (.kj [9] (.call (.cst (.bi 4)) (.cons (.bin .add (.sub (.var 1) (.bin .sub (.var 8) (.cst (.int 1)))) (.cst (.int 1))) (.cons (.sub (.var 1) (.var 8)) .nil))) (.cons (.ex (.call (.cst (.fn 38)) (.cons (.sub (.var 0) (.var 9)) (.cons (.var 3) (.cons (.var 5) (.cons (.var 6) .nil)))))) .nil)) .nil) .nil) (.cons (.asg 4 (.sub (.var 0) (.sub (.var 1) (.var 8)))) (.cons (.td [5,6,7] (.tup (.cons (.bin .add (.var 5) (.var 6)) (.cons (.call (.cst (.fn 36)) (.cons (.var 4) .nil)) (.cons (.attr (.var 4) 24) .nil))))) .nil)))) (.cons (.iff (.cmp (.var 2) .ne (.cst (.str [109,97,114,107]))) (.cons (.ex (.call (.cst (.fn 39)) (.cons (.var 0) (.cons (.bin .add (.sub (.var 1) (.neg (.cst (.int 1)))) (.cst (.int 1))) (.cons (.var 7) (.cons (.var 3) (.cons (.var 5) (.cons (.var 6) .nil)))))))) .nil) .nil) (.cons (.ret (.bin .add (.var 5) (.var 6))) .nil))))⟩
noncomputable def Yg:mV:=⟨[0,1,2],[],9,.cons (.asg 3 (.attr (.var 0) 27)) (.cons (.asg 4 (.attr (.var 3) 28)) (.cons (.asg 5 (.call (.cst (.fn 37)) (.cons (.attr (.var 0) 50) (.cons (.comp [none,none,some 4] (.attr (.sub (.var 2) (.var 1)) 29) [1] (.var 1) .nil .nil) .nil)))) (.cons (.ex (.call (.cst (.fn 17)) (.cons (.var 3) (.cons (.sub (.var 1) (.cst (.int 0))) (.cons (.bin .add (.sub (.var 1) (.neg (.cst (.int 1)))) (.cst (.int 1))) .nil))))) (.cons (.asg 6 (.ite (.cmp (.var 5) .eq (.cst (.str [108,105,103,97,116,117,114,101]))) (.fO (.var 3) 7 .nil) (.cst (.int 0)))) (.cons (.asg 7 (.call (.cst (.fn 40)) (.cons (.var 4) (.cons (.var 1) (.cons (.var 5) (.cons (.var 6) .nil)))))) (.cons (.asg 8 (.sub (.var 4) (.sub (.var 1) (.cst (.int 0))))) (.cons (.iE (.var 8) 29 (.var 2)) (.cons (.iE (.var 8) 30 (.cst (.int 0))) (.cons (.iE (.var 8) 31 (.cmp (.comp [none,none,some 4] (.var 1) [1] (.var 1) (.cons (.attr (.sub (.var 2) (.var 1)) 31) .nil) .nil) .ne (.lst .nil))) (.cons (.iff (.cmp (.var 5) .eq (.cst (.str [108,105,103,97,116,117,114,101]))) (.cons (.iE (.var 8) 24 (.var 6)) (.cons (.iE (.var 8) 25 (.cst (.int 0))) (.cons (.iE (.var 8) 26 (.var 7)) .nil))) .nil) (.cons (.Lz (.attr (.var 3) 28) (.sub (.var 1) (.cst (.int 0))) (.bin .add (.sub (.var 1) (.neg (.cst (.int 1)))) (.cst (.int 1))) (.comp [none,none,some 1,some 4] (.sub (.var 3) (.var 1)) [1] (.call (.cst (.bi 4)) (.cons (.sub (.var 1) (.cst (.int 0))) (.cons (.bin .add (.sub (.var 1) (.neg (.cst (.int 1)))) (.cst (.int 1))) .nil))) (.cons (.or (.cmp (.var 1) .eq (.sub (.var 2) (.cst (.int 0)))) (.cmp (.var 1) .Ck (.var 2))) .nil) .nil)) .nil)))))))))))⟩
noncomputable def Yh:mV:=⟨[0,1,2],[],8,.cons (.asg 3 (.attr (.attr (.var 0) 27) 28)) (.cons (.asg 4 (.attr (.sub (.var 3) (.var 2)) 29)) (.cons (.kj [5,6] (.fO (.attr (.var 1) 54) 1 (.cons (.var 4) (.cons (.lst .nil) .nil))) (.cons (.iff (.cmp (.var 5) .eq (.tup .nil)) (.cons (.iE (.sub (.var 3) (.var 2)) 29 (.var 6)) (.cons (.ret (.bin .add (.var 2) (.cst (.int 1)))) .nil)) .nil) (.cons (.asg 7 (.call (.cst (.fn 29)) (.cons (.var 0) (.cons (.var 2) (.cons (.call (.cst (.fn 25)) (.cons (.bin .add (.tup (.cons (.var 4) .nil)) (.var 5)) .nil)) .nil))))) (.cons (.iff (.and (.cmp (.var 7) .Tr (.cst .none)) (.call (.cst (.fn 31)) (.cons (.var 3) (.cons (.var 7) .nil)))) (.cons (.ex (.call (.cst (.fn 41)) (.cons (.var 0) (.cons (.var 7) (.cons (.var 6) .nil))))) (.cons (.ret (.bin .sub (.bin .add (.sub (.var 7) (.neg (.cst (.int 1)))) (.cst (.int 1))) (.call (.cst (.bi 0)) (.cons (.var 5) .nil)))) .nil)) .nil) .nil)))) (.cons (.ret (.neg (.cst (.int 1)))) .nil)))⟩
noncomputable def Yi:mV:=⟨[0],[],1,.cons (.iE (.var 0) 32 (.lst (.cons (.dict .nil) .nil))) (.cons (.iE (.var 0) 55 (.lst (.cons (.cst (.int (-1))) .nil))) .nil)⟩
noncomputable def Yj:mV:=⟨[0,1,2],[],5,.cons (.asg 3 (.cst (.int 0))) (.cons (.kj [4] (.var 1) (.cons (.iff (.cmp (.var 4) .Ck (.sub (.attr (.var 0) 32) (.var 3))) (.cons (.ua (.sub (.attr (.var 0) 32) (.var 3)) (.var 4) (.call (.cst (.bi 0)) (.cons (.attr (.var 0) 32) .nil))) (.cons (.ex (.fO (.attr (.var 0) 32) 0 (.cons (.dict .nil) .nil))) (.cons (.ex (.fO (.attr (.var 0) 55) 0 (.cons (.cst (.int (-1))) .nil))) .nil))) .nil) (.cons (.asg 3 (.sub (.sub (.attr (.var 0) 32) (.var 3)) (.var 4))) .nil))) (.cons (.ua (.attr (.var 0) 55) (.var 3) (.var 2)) .nil))⟩
noncomputable def Yk:mV:=⟨[0],[],1,.cons (.ret (.call (.cst (.bi 0)) (.cons (.attr (.var 0) 32) .nil))) .nil⟩
noncomputable def Yl:mV:=⟨[0,1,2],[],3,.cons (.ret (.fO (.sub (.attr (.var 0) 32) (.var 1)) 1 (.cons (.var 2) (.cons (.cst (.int (-1))) .nil)))) .nil⟩
noncomputable def Ym:mV:=⟨[0],[],5,.cons (.asg 1 (.call (.cst (.cls 6)) .nil)) (.cons (.kj [2] (.call (.cst (.bi 1)) (.cons (.attr (.var 0) 54) .nil)) (.cons (.kj [3,4] (.call (.cst (.fn 33)) (.cons (.sub (.attr (.var 0) 54) (.var 2)) .nil)) (.cons (.ex (.fO (.var 1) 8 (.cons (.bin .add (.tup (.cons (.var 2) .nil)) (.var 3)) (.cons (.var 4) .nil)))) .nil)) .nil)) (.cons (.ret (.var 1)) .nil))⟩
noncomputable def Yn:mV:=⟨[0],[],6,.cons (.asg 1 (.lst .nil)) (.cons (.asg 2 (.lst (.cons (.tup (.cons (.cst (.int 0)) (.cons (.tup .nil) .nil))) .nil))) (.cons (.EY (.var 2) (.cons (.td [3,4] (.fO (.var 2) 3 .nil)) (.cons (.iff (.cmp (.sub (.attr (.var 0) 55) (.var 3)) .ne (.cst (.int (-1)))) (.cons (.ex (.fO (.var 1) 0 (.cons (.tup (.cons (.var 4) (.cons (.sub (.attr (.var 0) 55) (.var 3)) .nil))) .nil))) .nil) .nil) (.cons (.kj [5] (.sub (.attr (.var 0) 32) (.var 3)) (.cons (.ex (.fO (.var 2) 0 (.cons (.tup (.cons (.sub (.sub (.attr (.var 0) 32) (.var 3)) (.var 5)) (.cons (.bin .add (.var 4) (.tup (.cons (.var 5) .nil))) .nil))) .nil))) .nil)) .nil)))) (.cons (.ret (.call (.cst (.bi 1)) (.cons (.var 1) .nil))) .nil)))⟩
noncomputable def Yo:mV:=⟨[0],[],4,.cons (.asg 1 (.dict .nil)) (.cons (.kj [2,3] (.EW (.call (.cst (.fn 48)) (.cons (.var 0) .nil)) (.tup (.cons (.neg (.call (.cst (.bi 0)) (.cons (.sub (.var 0) (.cst (.int 0))) .nil))) (.cons (.sub (.var 0) (.cst (.int 0))) .nil)))) (.cons (.ex (.fO (.fO (.var 1) 2 (.cons (.sub (.var 2) (.cst (.int 0))) (.cons (.lst .nil) .nil))) 0 (.cons (.tup (.cons (.t_ (.var 2) (.cst (.int 1)) (.cst .none)) (.cons (.var 3) .nil))) .nil))) .nil)) (.cons (.ret (.call (.cst (.cls 5)) (.cons (.var 1) .nil))) .nil))⟩
noncomputable def Yp:mV:=⟨[0],[],4,.cons (.asg 1 (.dict .nil)) (.cons (.kj [2,3] (.call (.cst (.fn 48)) (.cons (.var 0) .nil)) (.cons (.ex (.fO (.fO (.var 1) 2 (.cons (.var 3) (.cons (.lst .nil) .nil))) 0 (.cons (.var 2) .nil))) .nil)) (.cons (.ret (.var 1)) .nil))⟩
noncomputable def Yq:mV:=⟨[0,1,2],[],6,.cons (.asg 3 (.cst (.int 0))) (.cons (.asg 4 (.tup (.cons (.var 2) (.cons (.cst (.int (-1))) .nil)))) (.cons (.kj [5] (.call (.cst (.bi 4)) (.cons (.var 2) (.cons (.call (.cst (.bi 0)) (.cons (.var 1) .nil)) .nil))) (.cons (.asg 3 (.fO (.var 0) 10 (.cons (.var 3) (.cons (.sub (.var 1) (.var 5)) .nil)))) (.cons (.iff (.cmp (.var 3) .eq (.cst (.int (-1)))) (.cons .brk .nil) .nil) (.cons (.iff (.cmp (.sub (.attr (.var 0) 55) (.var 3)) .ne (.cst (.int (-1)))) (.cons (.asg 4 (.tup (.cons (.bin .add (.var 5) (.cst (.int 1))) (.cons (.sub (.attr (.var 0) 55) (.var 3)) .nil)))) .nil) .nil) .nil)))) (.cons (.ret (.var 4)) .nil)))⟩
noncomputable def Yr:mV:=⟨[0,1],[],7,.cons (.asg 2 (.lst .nil)) (.cons (.asg 3 (.cst (.int 0))) (.cons (.EY (.cmp (.var 3) .lt (.call (.cst (.bi 0)) (.cons (.var 1) .nil))) (.cons (.td [4,5] (.tup (.cons (.var 3) (.cons (.cst (.int (-1))) .nil)))) (.cons (.kj [6] (.var 0) (.cons (.iff (.cmp (.var 5) .eq (.cst (.int (-1)))) (.cons (.td [4,5] (.call (.cst (.fn 51)) (.cons (.var 6) (.cons (.var 1) (.cons (.var 3) .nil))))) .nil) .nil) .nil)) (.cons (.iff (.cmp (.var 5) .eq (.cst (.int (-1)))) (.cons (.td [4,5] (.tup (.cons (.bin .add (.var 3) (.cst (.int 1))) (.cons (.sub (.var 1) (.var 3)) .nil)))) .nil) .nil) (.cons (.ex (.fO (.var 2) 0 (.cons (.var 5) .nil))) (.cons (.asg 3 (.var 4)) .nil)))))) (.cons (.ret (.var 2)) .nil)))⟩
noncomputable def Ys:mV:=⟨[0,1],[],2,.cons (.ret (.call (.cst (.fn 52)) (.cons (.lst (.cons (.var 0) .nil)) (.cons (.var 1) .nil)))) .nil⟩
noncomputable def Yt:mV:=⟨[0,1],[],2,.cons (.iE (.var 0) 56 (.var 1)) (.cons (.iE (.var 0) 57 (.lst .nil)) .nil)⟩
noncomputable def Yu:mV:=⟨[0],[],3,.cons (.asg 1 (.cst (.int 0))) (.cons (.kj [2] (.attr (.var 0) 57) (.cons (.asg 1 (.fO (.attr (.var 0) 56) 10 (.cons (.var 1) (.cons (.var 2) .nil)))) (.cons (.iff (.cmp (.var 1) .eq (.cst (.int (-1)))) (.cons (.ret (.cst (.bool false))) .nil) .nil) .nil))) (.cons (.ret (.cmp (.sub (.attr (.attr (.var 0) 56) 32) (.var 1)) .ne (.dict .nil))) .nil))⟩
noncomputable def Yv:mV:=⟨[0],[],3,.cons (.td [1,2] (.call (.cst (.fn 51)) (.cons (.attr (.var 0) 56) (.cons (.attr (.var 0) 57) (.cons (.cst (.int 0)) .nil))))) (.cons (.iff (.cmp (.var 2) .eq (.cst (.int (-1)))) (.cons (.td [1,2] (.tup (.cons (.cst (.int 1)) (.cons (.sub (.attr (.var 0) 57) (.cst (.int 0))) .nil)))) .nil) .nil) (.cons (.iE (.var 0) 57 (.t_ (.attr (.var 0) 57) (.var 1) (.cst .none))) (.cons (.ret (.var 2)) .nil)))⟩
noncomputable def Yw:mV:=⟨[0,1],[],3,.cons (.ex (.fO (.attr (.var 0) 57) 0 (.cons (.var 1) .nil))) (.cons (.asg 2 (.lst .nil)) (.cons (.EY (.and (.attr (.var 0) 57) (.not (.fO (.var 0) 11 .nil))) (.cons (.ex (.fO (.var 2) 0 (.cons (.fO (.var 0) 12 .nil) .nil))) .nil)) (.cons (.ret (.var 2)) .nil)))⟩
noncomputable def Yx:mV:=⟨[0],[],2,.cons (.asg 1 (.lst .nil)) (.cons (.EY (.attr (.var 0) 57) (.cons (.ex (.fO (.var 1) 0 (.cons (.fO (.var 0) 12 .nil) .nil))) .nil)) (.cons (.ret (.var 1)) .nil))⟩
noncomputable def Yy:mV:=⟨[0],[],6,.cons (.asg 1 (.bin .mul (.lst (.cons (.cst (.int 0)) .nil)) (.fO (.var 0) 9 .nil))) (.cons (.asg 2 (.dict .nil)) (.cons (.kj [3] (.call (.cst (.bi 4)) (.cons (.bin .sub (.fO (.var 0) 9 .nil) (.cst (.int 1))) (.cons (.neg (.cst (.int 1))) (.cons (.neg (.cst (.int 1))) .nil)))) (.cons (.asg 4 (.call (.cst (.bi 5)) (.cons (.comp [none,none,some 1,some 3,some 0] (.tup (.cons (.var 1) (.cons (.sub (.var 2) (.sub (.sub (.attr (.var 4) 32) (.var 3)) (.var 1))) .nil))) [1] (.call (.cst (.bi 1)) (.cons (.sub (.attr (.var 0) 32) (.var 3)) .nil)) .nil .nil) .nil))) (.cons (.asg 5 (.tup (.cons (.sub (.attr (.var 0) 55) (.var 3)) (.cons (.var 4) .nil)))) (.cons (.iff (.cmp (.var 5) .Ck (.var 2)) (.cons (.ua (.var 2) (.var 5) (.var 3)) .nil) .nil) (.cons (.ua (.var 1) (.var 3) (.sub (.var 2) (.var 5))) .nil))))) (.cons (.ret (.call (.cst (.fn 60)) (.cons (.var 0) (.cons (.var 1) .nil)))) .nil)))⟩
noncomputable def Yz:mV:=⟨[0,1],[],9,.cons (.asg 2 (.lst (.cons (.sub (.var 1) (.cst (.int 0))) .nil))) (.cons (.asg 3 (.dict (.cons (.sub (.var 1) (.cst (.int 0))) (.cons (.cst (.int 0)) .nil)))) (.cons (.asg 4 (.call (.cst (.cls 6)) .nil)) (.cons (.EX (.var 4) 32 (.var 4) 55 (.tup (.cons (.lst .nil) (.cons (.lst .nil) .nil)))) (.cons (.EY (.cmp (.call (.cst (.bi 0)) (.cons (.attr (.var 4) 32) .nil)) .lt (.call (.cst (.bi 0)) (.cons (.var 2) .nil))) (.cons (.asg 5 (.sub (.var 2) (.call (.cst (.bi 0)) (.cons (.attr (.var 4) 32) .nil)))) (.cons (.asg 6 (.dict .nil)) (.cons (.kj [7] (.call (.cst (.bi 1)) (.cons (.sub (.attr (.var 0) 32) (.var 5)) .nil)) (.cons (.asg 8 (.sub (.var 1) (.sub (.sub (.attr (.var 0) 32) (.var 5)) (.var 7)))) (.cons (.iff (.cmp (.var 8) .Ck (.var 3)) (.cons (.ua (.var 3) (.var 8) (.call (.cst (.bi 0)) (.cons (.var 2) .nil))) (.cons (.ex (.fO (.var 2) 0 (.cons (.var 8) .nil))) .nil)) .nil) (.cons (.ua (.var 6) (.var 7) (.sub (.var 3) (.var 8))) .nil)))) (.cons (.ex (.fO (.attr (.var 4) 32) 0 (.cons (.var 6) .nil))) (.cons (.ex (.fO (.attr (.var 4) 55) 0 (.cons (.sub (.attr (.var 0) 55) (.var 5)) .nil))) .nil)))))) (.cons (.ret (.var 4)) .nil)))))⟩
noncomputable def YA:mV:=⟨[0,1,2,3],[],4,.cons (.iE (.var 0) 33 (.var 1)) (.cons (.iE (.var 0) 58 (.var 2)) (.cons (.iE (.var 0) 55 (.var 3)) .nil))⟩
noncomputable def YB:mV:=⟨[0,1,2],[],3,.cons (.ret (.sub (.sub (.attr (.var 0) 58) (.var 1)) (.fO (.attr (.var 0) 33) 4 (.cons (.var 2) .nil)))) .nil⟩
noncomputable def YC:mV:=⟨[0],[],4,.cons (.asg 1 (.dict .nil)) (.cons (.kj [2] (.attr (.var 0) 32) (.cons (.kj [3] (.var 2) (.cons (.ua (.var 1) (.var 3) (.cst (.bool true))) .nil)) .nil)) (.cons (.ret (.call (.cst (.bi 6)) (.cons (.comp [none,none,some 0] (.tup (.cons (.var 1) (.cons (.call (.cst (.bi 5)) (.cons (.comp [none,none,some 1,some 2] (.fO (.var 3) 10 (.cons (.var 1) (.cons (.var 2) .nil))) [1] (.call (.cst (.bi 4)) (.cons (.fO (.var 2) 9 .nil) .nil)) .nil .nil) .nil)) .nil))) [1] (.call (.cst (.bi 1)) (.cons (.var 1) .nil)) .nil .nil) .nil))) .nil))⟩
noncomputable def YD:mV:=⟨[0],[],8,.cons (.asg 1 (.call (.cst (.fn 63)) (.cons (.var 0) .nil))) (.cons (.asg 2 (.dict .nil)) (.cons (.asg 3 (.dict .nil)) (.cons (.asg 4 (.lst (.cons (.call (.cst (.bi 5)) (.cons (.bin .mul (.lst (.cons (.cst (.int (-1))) .nil)) (.fO (.var 0) 9 .nil)) .nil)) .nil))) (.cons (.kj [5] (.var 1) (.cons (.asg 6 (.sub (.var 1) (.var 5))) (.cons (.iff (.cmp (.var 6) .Ck (.var 2)) (.cons (.ua (.var 2) (.var 6) (.call (.cst (.bi 0)) (.cons (.var 4) .nil))) (.cons (.ex (.fO (.var 4) 0 (.cons (.var 6) .nil))) .nil)) .nil) (.cons (.ua (.var 3) (.var 5) (.sub (.var 2) (.var 6))) .nil)))) (.cons (.asg 7 (.comp [none,none,some 4] (.comp [none,none,some 1] (.sub (.var 1) (.var 2)) [1] (.var 2) .nil .nil) [1] (.call (.cst (.bi 4)) (.cons (.fO (.var 0) 9 .nil) .nil)) .nil .nil)) (.cons (.ret (.call (.cst (.cls 8)) (.cons (.call (.cst (.cls 0)) (.cons (.var 3) .nil)) (.cons (.var 7) (.cons (.call (.cst (.bi 10)) (.cons (.attr (.var 0) 55) .nil)) .nil))))) .nil))))))⟩
noncomputable def YE:mV:=⟨[0,1],[],8,.cons (.asg 2 (.lst .nil)) (.cons (.asg 3 (.cst (.int 0))) (.cons (.EY (.cmp (.var 3) .lt (.call (.cst (.bi 0)) (.cons (.var 1) .nil))) (.cons (.td [4,5,6] (.tup (.cons (.cst (.int 0)) (.cons (.bin .add (.var 3) (.cst (.int 1))) (.cons (.sub (.var 1) (.var 3)) .nil))))) (.cons (.asg 7 (.var 3)) (.cons (.EY (.cmp (.var 7) .lt (.call (.cst (.bi 0)) (.cons (.var 1) .nil))) (.cons (.asg 4 (.fO (.var 0) 10 (.cons (.var 4) (.cons (.sub (.var 1) (.var 7)) .nil)))) (.cons (.iff (.cmp (.var 4) .eq (.cst (.int (-1)))) (.cons .brk .nil) .nil) (.cons (.asg 7 (.bin .add (.var 7) (.cst (.int 1)))) (.cons (.iff (.cmp (.sub (.attr (.var 0) 55) (.var 4)) .ne (.cst (.int (-1)))) (.cons (.td [5,6] (.tup (.cons (.var 7) (.cons (.sub (.attr (.var 0) 55) (.var 4)) .nil)))) .nil) .nil) .nil))))) (.cons (.ex (.fO (.var 2) 0 (.cons (.var 6) .nil))) (.cons (.asg 3 (.var 5)) .nil)))))) (.cons (.ret (.var 2)) .nil)))⟩
noncomputable def YF:mV:=⟨[0,1,2,3,4,5],[.none,.none],6,.cons (.iE (.var 0) 33 (.var 1)) (.cons (.iE (.var 0) 59 (.var 2)) (.cons (.iE (.var 0) 54 (.var 3)) (.cons (.iE (.var 0) 60 (.ite (.cmp (.var 4) .Ss (.cst .none)) (.dict .nil) (.var 4))) (.cons (.iE (.var 0) 61 (.ite (.cmp (.var 5) .Ss (.cst .none)) (.dict .nil) (.var 5))) .nil))))⟩
noncomputable def YG:mV:=⟨[0,1],[],3,.cons (.asg 2 (.fO (.attr (.var 0) 33) 4 (.cons (.var 1) .nil))) (.cons (.ret (.ite (.EV (.cst (.int 1)) .le (.var 2) .le (.cst (.int 4))) (.var 2) (.cst (.int 0)))) .nil)⟩
noncomputable def YH:mV:=⟨[],[],0,.cons (.ret (.call (.cst (.cls 9)) (.cons (.call (.cst (.cls 0)) (.cons (.dict .nil) .nil)) (.cons (.call (.cst (.cls 0)) (.cons (.dict .nil) .nil)) (.cons (.lst .nil) .nil))))) .nil⟩
noncomputable def YI:mV:=⟨[0,1],[],4,.cons (.iff (.cmp (.sub (.var 0) (.cst (.int 2))) .eq (.cst (.int 0))) (.cons (.asg 2 (.sub (.sub (.var 0) (.cst (.int 0))) (.bin .mod (.sub (.var 0) (.cst (.int 1))) (.call (.cst (.bi 0)) (.cons (.sub (.var 0) (.cst (.int 0))) .nil))))) (.cons (.ua (.var 0) (.cst (.int 1)) (.bin .add (.sub (.var 0) (.cst (.int 1))) (.cst (.int 1)))) (.cons (.ua (.var 0) (.cst (.int 2)) (.bin .add (.bin .add (.bin .add (.bin .mul (.cst (.int 2)) (.call (.cst (.bi 8)) (.cons (.var 2) .nil))) (.ite (.cmp (.var 2) .lt (.cst (.int 0))) (.cst (.int 1)) (.cst (.int 0)))) (.bin .mul (.bin .mul (.cst (.int 7919)) (.sub (.var 0) (.cst (.int 1)))) (.sub (.var 0) (.cst (.int 1))))) (.cst (.int 1)))) .nil))) .nil) (.cons (.asg 3 (.bin .mod (.sub (.var 0) (.cst (.int 2))) (.var 1))) (.cons (.ua (.var 0) (.cst (.int 2)) (.bin .fdiv (.sub (.var 0) (.cst (.int 2))) (.var 1))) (.cons (.ret (.var 3)) .nil)))⟩
noncomputable def YJ:mV:=⟨[0],[],5,.cons (.asg 1 (.dict .nil)) (.cons (.asg 2 (.tup .nil)) (.cons (.kj [3] (.call (.cst (.bi 4)) (.cons (.call (.cst (.fn 72)) (.cons (.var 0) (.cons (.cst (.int 6)) .nil))) .nil)) (.cons (.asg 4 (.call (.cst (.bi 5)) (.cons (.comp [none,none,some 0] (.bin .add (.cst (.int 1)) (.call (.cst (.fn 72)) (.cons (.var 2) (.cons (.cst (.int 5)) .nil)))) [1] (.call (.cst (.bi 4)) (.cons (.bin .add (.cst (.int 1)) (.call (.cst (.fn 72)) (.cons (.var 0) (.cons (.cst (.int 4)) .nil)))) .nil)) .nil .nil) .nil))) (.cons (.iff (.and (.cmp (.var 2) .ne (.tup .nil)) (.cmp (.call (.cst (.fn 72)) (.cons (.var 0) (.cons (.cst (.int 3)) .nil))) .eq (.cst (.int 0)))) (.cons (.asg 4 (.bin .add (.t_ (.var 2) (.cst .none) (.cst (.int 3))) (.t_ (.var 4) (.cst .none) (.cst (.int 1))))) .nil) .nil) (.cons (.asg 2 (.var 4)) (.cons (.ex (.fO (.fO (.var 1) 2 (.cons (.sub (.var 4) (.cst (.int 0))) (.cons (.lst .nil) .nil))) 0 (.cons (.tup (.cons (.t_ (.var 4) (.cst (.int 1)) (.cst .none)) (.cons (.bin .add (.cst (.int 10)) (.call (.cst (.fn 72)) (.cons (.var 0) (.cons (.cst (.int 3)) .nil)))) .nil))) .nil))) .nil))))) (.cons (.ret (.var 1)) .nil)))⟩
noncomputable def YK:mV:=⟨[0],[],6,.cons (.asg 1 (.lst .nil)) (.cons (.kj [2] (.var 0) (.cons (.asg 3 (.lst .nil)) (.cons (.kj [4,5] (.sub (.var 0) (.var 2)) (.cons (.iff (.not (.call (.cst (.bi 7)) (.cons (.comp [none,none,some 4] (.cmp (.t_ (.var 2) (.cst .none) (.call (.cst (.bi 0)) (.cons (.var 1) .nil))) .eq (.var 1)) [1] (.var 3) .nil .nil) .nil))) (.cons (.ex (.fO (.var 3) 0 (.cons (.var 4) .nil))) (.cons (.ex (.fO (.var 1) 0 (.cons (.tup (.cons (.bin .add (.tup (.cons (.var 2) .nil)) (.var 4)) (.cons (.var 5) .nil))) .nil))) .nil)) .nil) .nil)) .nil))) (.cons (.ret (.call (.cst (.bi 1)) (.cons (.var 1) .nil))) .nil))⟩
noncomputable def YL:mV:=⟨[0,1],[],9,.cons (.asg 2 (.lst .nil)) (.cons (.asg 3 (.cst (.int 0))) (.cons (.EY (.cmp (.var 3) .lt (.call (.cst (.bi 0)) (.cons (.var 1) .nil))) (.cons (.td [4,5] (.tup (.cons (.bin .add (.var 3) (.cst (.int 1))) (.cons (.sub (.var 1) (.var 3)) .nil)))) (.cons (.kj [6] (.rev (.var 0)) (.cons (.kj [7,8] (.rev (.fO (.var 6) 1 (.cons (.sub (.var 1) (.var 3)) (.cons (.lst .nil) .nil)))) (.cons (.iff (.cmp (.t_ (.var 1) (.bin .add (.var 3) (.cst (.int 1))) (.bin .add (.bin .add (.var 3) (.cst (.int 1))) (.call (.cst (.bi 0)) (.cons (.var 7) .nil)))) .eq (.call (.cst (.bi 10)) (.cons (.var 7) .nil))) (.cons (.td [4,5] (.tup (.cons (.bin .add (.bin .add (.var 3) (.cst (.int 1))) (.call (.cst (.bi 0)) (.cons (.var 7) .nil))) (.cons (.var 8) .nil)))) .nil) .nil) .nil)) .nil)) (.cons (.ex (.fO (.var 2) 0 (.cons (.var 5) .nil))) (.cons (.asg 3 (.var 4)) .nil))))) (.cons (.ret (.var 2)) .nil)))⟩
noncomputable def YM:mV:=⟨[0,1],[],8,.cons (.asg 2 (.call (.cst (.cls 2)) (.cons (.comp [none,none,some 1] (.call (.cst (.cls 1)) (.cons (.cst (.int 0)) (.cons (.sub (.var 2) (.var 1)) (.cons (.var 1) .nil)))) [1] (.call (.cst (.bi 4)) (.cons (.call (.cst (.bi 0)) (.cons (.var 1) .nil)) .nil)) .nil .nil) .nil))) (.cons (.kj [3] (.attr (.var 2) 28) (.cons (.iE (.var 3) 36 (.cst (.int 1))) .nil)) (.cons (.asg 4 (.call (.cst (.cls 3)) (.cons (.cst (.str [108,105,103,97,116,117,114,101])) (.cons (.cst (.int 0)) (.cons (.cst (.int 0)) (.cons (.lst (.cons (.var 0) .nil)) .nil)))))) (.cons (.asg 5 (.call (.cst (.cls 4)) (.cons (.var 2) (.cons (.call (.cst (.fn 71)) .nil) (.cons (.lst (.cons (.var 4) .nil)) (.cons (.var 4) (.cons (.cst (.int 1)) .nil))))))) (.cons (.asg 6 (.cst (.int 0))) (.cons (.EY (.cmp (.var 6) .lt (.call (.cst (.bi 0)) (.cons (.attr (.var 2) 28) .nil))) (.cons (.asg 7 (.call (.cst (.fn 42)) (.cons (.var 5) (.cons (.var 0) (.cons (.var 6) .nil))))) (.cons (.asg 6 (.ite (.cmp (.var 7) .ge (.cst (.int 0))) (.var 7) (.bin .add (.var 6) (.cst (.int 1))))) .nil))) (.cons (.ret (.fO (.var 2) 6 .nil)) .nil))))))⟩
noncomputable def YN:mV:=⟨[0,1,2],[],7,.cons (.asg 3 (.call (.cst (.cls 7)) (.cons (.var 0) .nil))) (.cons (.asg 4 (.lst .nil)) (.cons (.kj [5] (.var 2) (.cons (.asg 4 (.bin .add (.var 4) (.fO (.var 3) 13 (.cons (.var 5) .nil)))) (.cons (.asg 6 (.call (.cst (.bi 5)) (.cons (.attr (.var 3) 57) .nil))) (.cons (.iff (.and (.cmp (.var 6) .ne (.tup .nil)) (.not (.call (.cst (.bi 7)) (.cons (.comp [none,none,none,some 6] (.and (.cmp (.call (.cst (.bi 0)) (.cons (.var 1) .nil)) .gt (.call (.cst (.bi 0)) (.cons (.var 3) .nil))) (.cmp (.t_ (.var 1) (.cst .none) (.call (.cst (.bi 0)) (.cons (.var 3) .nil))) .eq (.var 3))) [1,2] (.var 1) .nil .nil) .nil)))) (.cons (.ret (.cst .none)) .nil) .nil) .nil)))) (.cons (.ret (.bin .add (.var 4) (.fO (.var 3) 14 .nil))) .nil)))⟩
noncomputable def YO:mV:=⟨[0,1],[],2,.cons (.ret (.call (.cst (.bi 5)) (.cons (.comp [none,none,none,some 1] (.tup (.cons (.t_ (.var 1) (.call (.cst (.bi 0)) (.cons (.var 3) .nil)) (.cst .none)) (.cons (.var 2) .nil))) [1,2] (.var 0) (.cons (.cmp (.t_ (.var 1) (.cst .none) (.call (.cst (.bi 0)) (.cons (.var 3) .nil))) .eq (.var 3)) .nil) .nil) .nil))) .nil⟩
noncomputable def YP:mV:=⟨[0],[],8,.cons (.asg 1 (.bin .add (.lst (.cons (.tup .nil) .nil)) (.comp [none,none,none,none] (.t_ (.var 1) (.cst .none) (.bin .add (.var 3) (.cst (.int 1)))) [1,2] (.var 0) .nil (.cons [3] (.call (.cst (.bi 4)) (.cons (.call (.cst (.bi 0)) (.cons (.var 1) .nil)) .nil)) .nil .nil)))) (.cons (.asg 2 (.lst .nil)) (.cons (.kj [3] (.var 1) (.cons (.asg 4 (.call (.cst (.fn 78)) (.cons (.var 0) (.cons (.var 3) .nil)))) (.cons (.iff (.cmp (.var 4) .Ck (.var 2)) (.cons (.ex (.fO (.var 2) 0 (.cons (.var 4) .nil))) .nil) .nil) .nil))) (.cons (.asg 5 (.lst (.cons (.call (.cst (.bi 5)) (.cons (.comp [none,none] (.tup .nil) [1] (.var 2) .nil .nil) .nil)) .nil))) (.cons (.kj [6] (.call (.cst (.bi 4)) (.cons (.cst (.int 1)) (.cons (.cst (.int 6)) .nil))) (.cons (.asg 7 (.call (.cst (.bi 5)) (.cons (.comp [none,none,some 6] (.call (.cst (.fn 78)) (.cons (.var 1) (.cons (.tup (.cons (.var 2) .nil)) .nil))) [1] (.var 2) .nil .nil) .nil))) (.cons (.iff (.cmp (.var 7) .Ck (.var 5)) (.cons (.ex (.fO (.var 5) 0 (.cons (.var 7) .nil))) .nil) .nil) .nil))) (.cons (.ret (.tup (.cons (.call (.cst (.bi 0)) (.cons (.var 2) .nil)) (.cons (.call (.cst (.bi 0)) (.cons (.var 5) .nil)) .nil)))) .nil)))))⟩
noncomputable def YQ:mV:=⟨[0,1],[],7,.cons (.asg 2 (.cst (.int 1))) (.cons (.kj [3] (.call (.cst (.bi 4)) (.cons (.call (.cst (.bi 0)) (.cons (.var 0) .nil)) .nil)) (.cons (.kj [4] (.call (.cst (.bi 1)) (.cons (.sub (.var 0) (.var 3)) .nil)) (.cons (.iff (.or (.cmp (.var 3) .ge (.var 2)) (.cmp (.sub (.sub (.var 0) (.var 3)) (.var 4)) .gt (.var 2))) (.cons (.ret (.cst (.bool false))) .nil) .nil) (.cons (.asg 2 (.call (.cst (.bi 3)) (.cons (.var 2) (.cons (.bin .add (.sub (.sub (.var 0) (.var 3)) (.var 4)) (.cst (.int 1))) .nil)))) .nil))) .nil)) (.cons (.asg 5 (.cst (.int 0))) (.cons (.kj [6] (.var 1) (.cons (.iff (.cmp (.var 6) .gt (.bin .add (.var 5) (.cst (.int 1)))) (.cons (.ret (.cst (.bool false))) .nil) .nil) (.cons (.asg 5 (.call (.cst (.bi 3)) (.cons (.var 5) (.cons (.var 6) .nil)))) .nil))) (.cons (.ret (.cmp (.var 2) .eq (.call (.cst (.bi 0)) (.cons (.var 0) .nil)))) .nil))))⟩
noncomputable def YR:mV:=⟨[0],[],12,.cons (.asg 1 (.lst (.cons (.bin .add (.comp [none,none] (.call (.cst (.bi 9)) (.cons (.var 1) .nil)) [1] (.t_ (.var 0) (.cst .none) (.cst (.int 40))) .nil .nil) (.lst (.cons (.cst (.int 26)) (.cons (.cst (.int 17)) .nil)))) (.cons (.cst (.int 0)) (.cons (.cst (.int 0)) .nil))))) (.cons (.asg 2 (.lst (.cons (.call (.cst (.fn 73)) (.cons (.var 1) .nil)) (.cons (.call (.cst (.fn 73)) (.cons (.var 1) .nil)) .nil)))) (.cons (.asg 3 (.comp [none,none] (.call (.cst (.fn 47)) (.cons (.call (.cst (.cls 5)) (.cons (.var 1) .nil)) .nil)) [1] (.var 2) .nil .nil)) (.cons (.asg 4 (.call (.cst (.cls 5)) (.cons (.sub (.var 2) (.cst (.int 0))) .nil))) (.cons (.asg 5 (.call (.cst (.fn 74)) (.cons (.sub (.var 2) (.cst (.int 0))) .nil))) (.cons (.asg 6 (.call (.cst (.fn 59)) (.cons (.sub (.var 3) (.cst (.int 0))) .nil))) (.cons (.asg 7 (.call (.cst (.fn 64)) (.cons (.var 6) .nil))) (.cons (.iff (.or (.cmp (.call (.cst (.fn 48)) (.cons (.sub (.var 3) (.cst (.int 0))) .nil)) .ne (.var 5)) (.or (.cmp (.call (.cst (.fn 48)) (.cons (.var 6) .nil)) .ne (.var 5)) (.cmp (.fO (.call (.cst (.fn 49)) (.cons (.var 6) .nil)) 5 .nil) .ne (.fO (.var 4) 5 .nil)))) (.cons (.ret (.cst (.bool false))) .nil) .nil) (.cons (.iff (.or (.cmp (.tup (.cons (.fO (.var 6) 9 .nil) (.cons (.call (.cst (.bi 0)) (.cons (.sub (.attr (.var 7) 58) (.cst (.int 0))) .nil)) .nil))) .ne (.call (.cst (.fn 79)) (.cons (.var 5) .nil))) (.cmp (.call (.cst (.bi 0)) (.cons (.attr (.var 7) 58) .nil)) .ne (.fO (.var 6) 9 .nil))) (.cons (.ret (.cst (.bool false))) .nil) .nil) (.cons (.asg 8 (.call (.cst (.fn 50)) (.cons (.var 6) .nil))) (.cons (.iff (.cmp (.var 8) .ne (.call (.cst (.bi 6)) (.cons (.comp [none,none,none,some 5] (.tup (.cons (.var 2) (.cons (.comp [none,none,none,some 2] (.var 1) [1,2] (.var 3) (.cons (.cmp (.var 2) .eq (.var 3)) .nil) .nil) .nil))) [1,2] (.var 5) .nil .nil) .nil))) (.cons (.ret (.cst (.bool false))) .nil) .nil) (.cons (.iff (.not (.call (.cst (.fn 80)) (.cons (.attr (.var 6) 32) (.cons (.comp [none,none,some 7] (.fO (.attr (.var 2) 33) 4 (.cons (.var 1) .nil)) [1] (.call (.cst (.bi 4)) (.cons (.cst (.int 1)) (.cons (.cst (.int 6)) .nil))) .nil .nil) .nil)))) (.cons (.ret (.cst (.bool false))) .nil) .nil) (.cons (.kj [9] (.call (.cst (.bi 4)) (.cons (.cst (.int 3)) .nil)) (.cons (.asg 10 (.comp [none,none,some 1] (.bin .add (.cst (.int 1)) (.call (.cst (.fn 72)) (.cons (.var 2) (.cons (.cst (.int 5)) .nil)))) [1] (.call (.cst (.bi 4)) (.cons (.call (.cst (.fn 72)) (.cons (.var 1) (.cons (.cst (.int 8)) .nil))) .nil)) .nil .nil)) (.cons (.iff (.cmp (.var 5) .ne (.lst .nil)) (.cons (.asg 10 (.bin .add (.bin .add (.var 10) (.call (.cst (.bi 10)) (.cons (.sub (.sub (.var 5) (.call (.cst (.fn 72)) (.cons (.var 1) (.cons (.call (.cst (.bi 0)) (.cons (.var 5) .nil)) .nil)))) (.cst (.int 0))) .nil))) (.t_ (.var 10) (.cst .none) (.cst (.int 1))))) .nil) .nil) (.cons (.asg 11 (.call (.cst (.fn 75)) (.cons (.t_ (.var 2) (.cst .none) (.cst (.int 1))) (.cons (.var 10) .nil)))) (.cons (.iff (.or (.cmp (.call (.cst (.fn 53)) (.cons (.sub (.var 3) (.cst (.int 0))) (.cons (.var 10) .nil))) .ne (.var 11)) (.or (.cmp (.call (.cst (.fn 65)) (.cons (.var 7) (.cons (.var 10) .nil))) .ne (.var 11)) (.cmp (.call (.cst (.fn 77)) (.cons (.var 6) (.cons (.var 5) (.cons (.var 10) .nil)))) .ne (.var 11)))) (.cons (.ret (.cst (.bool false))) .nil) .nil) (.cons (.iff (.and (.cmp (.var 9) .eq (.cst (.int 0))) (.cmp (.call (.cst (.fn 76)) (.cons (.var 4) (.cons (.var 10) .nil))) .ne (.var 11))) (.cons (.ret (.cst (.bool false))) .nil) .nil) (.cons (.iff (.cmp (.call (.cst (.fn 52)) (.cons (.var 3) (.cons (.var 10) .nil))) .ne (.call (.cst (.fn 75)) (.cons (.var 2) (.cons (.var 10) .nil)))) (.cons (.ret (.cst (.bool false))) .nil) .nil) .nil))))))) (.cons (.ret (.cst (.bool true))) .nil)))))))))))))⟩
noncomputable def WI:List mV:=[noFn,c1,c2,noFn,noFn,c5,c6,noFn,noFn,c9,TC,noFn,noFn,XU,noFn,XW,XX,XY,XZ,noFn,X0,noFn,X1,X2,X3,X4,VO,X5,X6,X7,X8,X9,X',X_,Ya,Yb,Yc,Yd,noFn,Ye,Yf,Yg,Yh,Yi,Yj,Yk,Yl,Ym,Yn,Yo,Yp,Yq,Yr,Ys,Yt,Yu,Yv,Yw,Yx,Yy,Yz,YA,YB,YC,YD,YE,YF,YG,noFn,noFn,noFn,YH,YI,YJ,YK,YL,YM,YN,YO,YP,YQ,YR]
noncomputable def WJ:List Qu:=[⟨[(4,2),(20,3),(19,4),(5,5)],1⟩,⟨[(21,7),(5,8)],6⟩,⟨[(6,10),(22,11),(5,12),(7,13),(23,14)],9⟩,⟨[(5,19)],18⟩,⟨[],20⟩,⟨[(5,35)],34⟩,⟨[(8,44),(9,45),(10,46)],43⟩,⟨[(11,55),(12,56),(13,57),(14,58)],54⟩,⟨[(10,62)],61⟩,⟨[(15,67),(16,68),(17,69),(5,70)],66⟩]
noncomputable def PG:U6:=⟨WI,WJ⟩
variable {b:AS} {aw:Bool} {bM:Bool->AS->Prop}
theorem tb (h:∃t,nQ b (.bool aw) t/\bM t b):bM aw b:=by refine eS h λt h q=>?_;rcases h with ⟨⟩;exact q
theorem AS.le_refl (a:AS):eC a a:=λ_ _ h=>h
open Mine.AS renaming le_refl->ee
variable {p ax:AS}
theorem AS.le_trans (h:eC b p) (a:eC p ax):eC b ax:=λx o e=>a x o (h x o e)
open Mine.AS renaming le_trans->b4
theorem AS.fh (b:AS) (a:Nat) (o:AO):b.set a o a=some o:=by simp [tS]
open Mine.AS renaming fh->gZ
variable {av:AO}
theorem AS.fH (h:d≠a):b.set a av d=b d:=by simp [tS,h]
open Mine.AS renaming fH->gu
theorem AS.h9 (h:b a=none):eC b (b.set a av):=λx d e=>by
 by_cases c:x=a
 .subst c;rw [h] at e;contradiction
 .rw [gu c];exact e
open Mine.AS renaming h9->ki
theorem AS.Su (d:eC b p) (h:b a=none):eC b (p.set a av):=λx f e=>by
 by_cases c:x=a
 .subst c;rw [h] at e;contradiction
 .rw [gu c];exact d x f e
theorem AS.fB (c:eC b p) (h:p a=none):b a=none:=by
 induction e:b a with
 |none=>rfl
 |some o=>rw [c a o e] at h;contradiction
open Mine.AS renaming fB->jH
theorem AS.Hd (d:eC b p) (h:p.free a):b.free a:=
 ⟨jH d h.1,λf c g e=>h.2 f c g (d _ _ e)⟩
theorem AS.set_set (c:AS) (a:Nat) (o d:AO):(c.set a o).set a d=c.set a d:=by
 funext b;simp only [tS];split<;>rfl
open Mine.AS renaming set_set->Oj
variable {bF:AO}
theorem AS.set_comm (h:a≠d):(b.set a av).set d bF=(b.set d bF).set a av:=by
 funext x;simp only [tS]
 by_cases c:x=a
 .subst c;simp [h]
 .clear h;by_cases e:x=d
  .subst e;simp [c]
  .simp [c,e]
theorem AS.set_same (h:b a=some av):b.set a av=b:=by
 funext c;simp only [tS];split
 .next e=>subst e;exact h.symm
 .rfl
theorem AS.free.ne (h:b.free a) (e:b d=some av):d≠a:=λq=>by subst q;rw [h.1] at e;contradiction
structure Base where
 prog:GH
 w:Y6
 h₀:vY
 K:zv
 fa:Nat->g0
 ca:Nat->g0
 mg:j9->Option eJ
 mb:j9->Option eJ
 os:WZ
 tab:g0
 lc:g0
 E3:j9
 He:j9
noncomputable def Aq:Nat->eJ
 |0=>.builtin "len"
 |1=>.builtin "sorted"
 |2=>.builtin "min"
 |3=>.builtin "max"
 |4=>.type "range"
 |5=>.type "tuple"
 |6=>.type "dict"
 |7=>.builtin "any"
 |8=>.builtin "abs"
 |9=>.type "int"
 |_=>.type "list"
mutual
inductive RV (B:Base) (h:vY):eJ->AV->Prop where
 |none:RV B h .none .none
 |bool (b:Bool):RV B h (.bool b) (.bool b)
 |int (i:Int) (t:Tok):RV B h (.int i t) (.int i)
 |str (s:j9) (t:Tok):RV B h (.str s t) (.str s.cps.toList)
 |ref (a:g0):RV B h (.ref a) (.ref a)
 |fn (n:Nat):RV B h (.ref (B.fa n)) (.fn n)
 |cls (n:Nat):RV B h (.ref (B.ca n)) (.cls n)
 |bi (n:Nat):RV B h (Aq n) (.bi n)
 |BQ {a:g0} {its:Array eJ} {xs:List Int}:B.h₀.IsList a its->GI its.toList xs->its.size<=fG->RV B h (.ref a) (.BQ xs)
 |pZ {a:g0} {lo hi st:Int} {t u v:Tok}:IsRange h a lo hi st t u v->lo.natAbs<=1000000->hi.natAbs<=1000000->RV B h (.ref a) (.pZ lo hi st)
 |tup {a:g0} {items:Array eJ} {n:Nat} {xs:List AV}:h.get? a=some (gw "tuple" items n)->items.size<=fG->h_ B h items.toList xs->RV B h (.ref a) (.tup xs)
inductive h_ (B:Base) (h:vY):List eJ->List AV->Prop where
 |nil:h_ B h [] []
 |cons {v:eJ} {x:AV} {vs:List eJ} {xs:List AV}:RV B h v x->h_ B h vs xs->h_ B h (v::vs) (x::xs)
end
noncomputable def gc (o:Zi):Prop:=(o.cls= .type "tuple"\/o.cls= .type "range"\/o.cls= .type "code")/\(∀es ep,o.data≠.dict es ep)/\∀v,o.data≠.cell v
variable {c:Base} {H b8:vY}
theorem Iv (i:∀a o,H.get? a=some o->gc o->b8.get? a=some o):(∀{v:eJ} {x:AV},RV c H v x->RV c b8 v x)/\∀{d:List eJ} {b:List AV},h_ c H d b->h_ c b8 d b:=by
 have k:∀{a:g0} {g h j:Int} {t u v:Tok},IsRange H a g h j t u v->g.natAbs<=1000000->h.natAbs<=1000000->RV c b8 (.ref a) (.pZ g h j):=λs p q=>.pZ (i _ _ s (iD (.inr (.inl rfl)) (by (repeat intro _);contradiction) (by (repeat intro _);contradiction))) p q
 have m:∀{a:g0} {f:Array eJ} {n:Nat} {b:List AV},H.get? a=some (gw "tuple" f n)->f.size<=fG->h_ c H f.toList b->h_ c b8 f.toList b->RV c b8 (.ref a) (.tup b):=λe l _ r=>.tup (i _ _ e (iD (.inl rfl) (by (repeat intro _);contradiction) (by (repeat intro _);contradiction))) l r
 exact ⟨RV.rec (motive_1:=λv x _=>RV c b8 v x) (motive_2:=λd b _=>h_ c b8 d b) .none .bool .int .str .ref .fn .cls .bi .BQ k m .nil λ_ _=>.cons,
  h_.rec (motive_1:=λv x _=>RV c b8 v x) (motive_2:=λd b _=>h_ c b8 d b) .none .bool .int .str .ref .fn .cls .bi .BQ k m .nil λ_ _=>.cons⟩
variable {J:eJ}
theorem RV.mono (b:∀a o,H.get? a=some o->gc o->b8.get? a=some o) (q:RV c H J i):RV c b8 J i:=(Iv b).1 q
variable {aj:List eJ} {l:List AV}
theorem h_.mono (b:∀a o,H.get? a=some o->gc o->b8.get? a=some o) (q:h_ c H aj l):h_ c b8 aj l:=(Iv b).2 q
theorem h_.length (r:h_ c H aj l):aj.length=l.length:=by
 induction aj generalizing l with
 |nil=>cases r;rfl
 |cons v aj b=>cases r with |cons a r=>simp [b r]
theorem h_.get (r:h_ c H aj l):∀{i:Nat} {x:AV},l[i]? =some x->∃v,aj[i]? =some v/\RV c H v x:=by
 induction aj generalizing l with
 |nil=>cases r;intro i x e;simp at e
 |cons v aj b=>
  cases r with
  |cons a r=>
   intro i x e
   induction i using ja with
   |zero=>simp only [tP,jO] at e;subst e;exact ei v rfl a
   |succ j=>simp only [tQ] at e⊢;exact b r e
variable {aN:List AV}
theorem h_.append {b:List eJ} (r:h_ c H aj l) (q:h_ c H b aN):h_ c H (aj++b) (l++aN):=by
 induction aj generalizing l with
 |nil=>cases r;exact q
 |cons v aj d=>cases r with |cons a r=>exact .cons a (d r)
theorem h_.take (r:h_ c H aj l):∀n,h_ c H (aj.take n) (l.take n):=by
 induction aj generalizing l with
 |nil=>cases r;intro n;simp;exact .nil
 |cons v aj b=>
  cases r with
  |cons a r=>intro n;induction n using ja with
   |zero=>exact .nil
   |succ n=>exact .cons a (b r n)
theorem h_.drop (r:h_ c H aj l):∀n,h_ c H (aj.drop n) (l.drop n):=by
 induction aj generalizing l with
 |nil=>cases r;intro n;simp;exact .nil
 |cons v aj b=>
  cases r with
  |cons a r=>intro n;induction n using ja with
   |zero=>exact .cons a r
   |succ n=>exact b r n
theorem h_.set (r:h_ c H aj l) (q:RV c H J i):∀n,h_ c H (aj.set n J) (l.set n i):=by
 induction aj generalizing l with
 |nil=>cases r;intro n;exact .nil
 |cons w aj b=>
  cases r with
  |cons a r=>intro n;induction n using ja with
   |zero=>exact .cons q r
   |succ n=>exact .cons a (b r n)
theorem h_.rev (r:h_ c H aj l):h_ c H aj.reverse l.reverse:=by
 induction aj generalizing l with
 |nil=>cases r;exact .nil
 |cons v aj b=>
  cases r with
  |cons a r=>rw [nM,nM];exact (b r).append (.cons a .nil)
noncomputable def WK (B:Base) (h:vY) (v:eJ):AV->Prop
 | .none=>v= .none
 | .bool b=>v= .bool b
 | .int i=>∃t,v= .int i t
 | .str l=>∃s t,v= .str s t/\l=s.cps.toList
 | .ref a=>v= .ref a
 | .fn n=>v= .ref (B.fa n)
 | .cls n=>v= .ref (B.ca n)
 | .bi n=>v=Aq n
 | .BQ xs=>∃a its,v= .ref a/\B.h₀.IsList a its/\GI its.toList xs/\its.size<=fG
 | .tup xs=>∃a items n,v= .ref a/\h.get? a=some (gw "tuple" items n)/\items.size<=fG/\h_ B h items.toList xs
 | .pZ _ _ _=>True
theorem r_ (q:RV c H J i):WK c H J i:=
 q.casesOn (motive_1:=λJ i _=>WK c H J i) rfl (λ_=>rfl) (λ_ t=>(oq t rfl)) (λ_ _=>(nE _ _ rfl rfl)) (λ_=>rfl) (λ_=>rfl) (λ_=>rfl) (λ_=>rfl) (λe a l=>(pk _ _ rfl e a l)) (λ_ _ _=>trivial) λe l r=>sA _ _ _ rfl e l r
theorem qG (q:RV c H J .none):J= .none:=r_ q
theorem xd (q:RV c H J (.bool aw)):J= .bool aw:=r_ q
theorem Qx (q:RV c H J (.fn a)):J= .ref (c.fa a):=r_ q
theorem LG (q:RV c H J (.cls a)):J= .ref (c.ca a):=r_ q
theorem Qy (q:RV c H J (.bi a)):J=Aq a:=r_ q
theorem gr (a:RV c H J (.int q)):∃t,J= .int q t:=r_ a
theorem Ar (q:RV c H J (.str C)):∃s t,J= .str s t/\C=s.cps.toList:=r_ q
theorem iG (q:RV c H J (.tup l)):∃a b n,J= .ref a/\H.get? a=some (gw "tuple" b n)/\b.size<=fG/\h_ c H b.toList l:=r_ q
variable {a8:List Int}
theorem LH (q:RV c H J (.BQ a8)):∃a b,J= .ref a/\c.h₀.IsList a b/\GI b.toList a8/\b.size<=fG:=r_ q
variable {y:g0}
theorem gP (q:RV c H J (.ref y)):J= .ref y:=r_ q
noncomputable def TF (B:Base) (h:vY) (vs:List eJ):List AV->Prop
 |[]=>vs=[]
 |x::xs=>∃v us,vs=v::us/\RV B h v x/\h_ B h us xs
theorem Iw (q:h_ c H aj l):TF c H aj l:=
 q.casesOn (motive_2:=λaj l _=>TF c H aj l) rfl λa b=>mU _ _ rfl a b
theorem Dw (q:h_ c H aj []):aj=[]:=Iw q
theorem xe (q:h_ c H aj (i::l)):∃v a,aj=v::a/\RV c H v i/\h_ c H a l:=Iw q
theorem E4 (q:h_ c H [] l):l=[]:=by
 induction l using el with
 |nil=>rfl
 |cons x l=>refine i_ (xe q) λv a e _=>?_;injection e
theorem yh (q:h_ c H (J::aj) l):∃x d,l=x::d/\RV c H J x/\h_ c H aj d:=by
 induction l using el with
 |nil=>have:=Dw q;contradiction
 |cons x l=>
  refine jU (xe q) λw h e a b=>?_
  injection e with f g
  exact mU x l rfl (f▸a) (g▸b)
theorem LI (q:GI aj a8):h_ c H aj (a8.map .int):=by
 induction q with
 |nil=>exact .nil
 |cons i t _ a=>exact .cons (.int i t) a
noncomputable def ub (B:Base):KeyKind B.prog B.w Int:=WS B.prog B.w
mutual
noncomputable def toPy:AV->PyData
 | .int i=>.int i
 | .str s=>.str ⟨s.toArray⟩
 | .tup xs=>.tuple (jZ xs)
 |_=>.none
noncomputable def jZ:List AV->List PyData
 |[]=>[]
 |x::r=>toPy x::jZ r
end
theorem OS (s:j9):(⟨s.cps.toList.toArray⟩:j9)=s:=by rcases s with ⟨⟩;simp
theorem Rg (p:iF a i):(∃c,i= .int c)\/(∃s,i= .str s)\/∃k b,a=k+1/\i= .tup b/\∀y∈b,iF k y:=by
 induction p using iF.casesOn with
 |int _ c=>exact .inl (oq c rfl)
 |str _ s _=>exact .inr (.inl (oq s rfl))
 |tup k b d=>exact .inr (.inr (mU k b rfl rfl d))
theorem vN (e:∀x∈l,∀v,RV c H v x->∃d,Y9 H v (toPy x) d) (r:h_ c H aj l):∃d,ReadsAll H aj (jZ l) d:=by
 induction l generalizing aj with
 |nil=>rw [Dw r];exact oq _ .nil
 |cons x l g=>
  refine v_ aj (xe r) λv i a b=>?_
  refine kf (e _ (.head _) v a) λd q=>?_
  exact kf (g (λx f=>e x (.tail _ f)) b) λh p=>oq _ (.cons q p)
theorem j0 (p:iF a i) (r:RV c H J i):∃b,Y9 H J (toPy i) b:=by
 induction p generalizing J with
 |int _ f=>refine r5 J (gr r) λt=>?_;exact oq _ (.int f t)
 |str _ s _=>
  refine i_ (Ar r) λu t d g=>?_
  rw [d,g]
  show ∃b,Y9 H _ (.str ⟨u.cps.toList.toArray⟩) b
  rw [OS]
  exact oq _ (.str u t)
 |tup k v o h=>
  refine g6 J (iG r) λl n m e _ q=>?_
  exact kf (vN (λi j J r=>h i j r) q) λb q=>oq b (.tuple e rfl rfl q)
theorem xf (d:∀x∈l,iF a x) (r:h_ c H aj l):∃e,ReadsAll H aj (jZ l) e:=
 vN (λx b _ r=>j0 (d x b) r) r
theorem za (e:∀x∈l,(toPy x).canLay0=true/\(toPy x).depth<=a):xV (jZ l)=true/\qr (jZ l)<=a:=by
 induction l with
 |nil=>exact ⟨rfl,fA _⟩
 |cons x r g=>
  refine iP (e x (.head _)) λf b=>iP (g λy h=>e y (.tail _ h)) λc d=>?_
  exact ⟨(eW _ _).mpr ⟨f,c⟩,Nat.max_le.mpr ⟨b,d⟩⟩
theorem iy (p:iF a i):(toPy i).canLay0=true/\(toPy i).depth<=a:=by
 induction p with
 |int _ f=>exact ⟨rfl,fA _⟩
 |str _ s c=>
  refine ⟨?_,fA _⟩
  show Qh _=true
  unfold Qh
  simp only [Array.all_eq_true,decide_eq_true_eq,List.getElem_toArray]
  exact λf j=>ej (c _ (fP _)) (by decide)
 |tup k h g e=>exact iP (za e) λd b=>⟨d,fi b⟩
theorem wa (c:∀x∈l,iF a x):xV (jZ l)=true/\qr (jZ l)<=a:=za λx b=>iy (c x b)
theorem Cu:∀{a:List AV},(∀x∈l,∀y∈a,(mZ (toPy x) (toPy y)=true↔x=y))->(sm (jZ l) (jZ a)=true↔l=a):=by
 induction l with
 |nil=>
  intro a _
  induction a using el with
  |nil=>exact ⟨λ_=>rfl,λ_=>rfl⟩
  |cons y a=>exact ⟨by intros;contradiction,by intros;contradiction⟩
 |cons x l d=>
  intro a b
  induction a using el with
  |nil=>exact ⟨by intros;contradiction,by intros;contradiction⟩
  |cons y a=>
   refine (qA.trans (and_congr (b x (.head _) y (.head _)) (d λz c u e=>b z (.tail _ c) u (.tail _ e)))).trans ?_
   exact ⟨λh=>h.1▸h.2▸rfl,λh=>⟨EJ h,List.tail_eq_of_cons_eq h⟩⟩
theorem xg (c:iF a i) (b:iF d af):(mZ (toPy i) (toPy af)=true↔i=af):=by
 induction c generalizing d af with
 |int _ o=>
  induction b using iF.casesOn with
  |int _ j=>exact beq_iff_eq.trans ⟨congrArg _,AV.int.inj⟩
  |_=>exact ⟨by intros;contradiction,by intros;contradiction⟩
 |str _ s _=>
  induction b using iF.casesOn with
  |str _ t _=>exact beq_iff_eq.trans ⟨λe=>congrArg AV.str (congrArg (λz:j9=>z.cps.toList) e),λe=>AV.str.inj e▸rfl⟩
  |_=>exact ⟨by intros;contradiction,by intros;contradiction⟩
 |tup m h c l=>
  induction b using iF.casesOn with
  |tup j g k=>exact (show sm (jZ h) (jZ g)=true↔_ from Cu λi n af f=>l i n (k af f)).trans ⟨congrArg _,AV.tup.inj⟩
  |_=>exact ⟨by intros;contradiction,by intros;contradiction⟩
theorem E5 (b:∀x∈l,iF a x) (c:∀y∈aN,iF d y):(sm (jZ l) (jZ aN)=true↔l=aN):=
 Cu λx e y f=>xg (b x e) (c y f)
theorem Iz (c:Plain i):(∀x∈l,Plain x)->(((jZ l).any λy=>mZ y (toPy i))=true↔i∈l):=by
 induction l with
 |nil=>exact λ_=>⟨by intros;contradiction,by intros;contradiction⟩
 |cons x r b=>
  intro a
  show (mZ (toPy x) (toPy i)||_)=true↔_
  rw [j4,eL,xg (a x (.head _)) c,b λy d=>a y (.tail _ d)]
  exact or_congr_left ⟨rK,rK⟩
mutual
noncomputable def IA:AV->Int
 | .int i=>hashInt i
 | .tup xs=>QX (qg (wb xs))
 |_=>0
noncomputable def wb:List AV->List Int
 |[]=>[]
 |x::r=>IA x::wb r
end
mutual
noncomputable def Dx:AV->Nat
 | .tup xs=>rM xs+1
 |_=>1
noncomputable def rM:List AV->Nat
 |[]=>0
 |x::r=>Dx x+rM r
end
theorem BS:∀(b a:List AV),wb (b++a)=wb b++wb a:=by
 intro d
 induction d with
 |nil=>
  intro _
  exact rfl
 |cons x r c=>
  exact λa=>congrArg (IA x::·) (c a)
theorem Av:∀(b a:List AV),rM (b++a)=rM b+rM a:=by
 intro d
 induction d with
 |nil=>
  exact λa=>(i4 _).symm
 |cons x r c=>
  exact λa=>(congrArg (Dx x+·) (c a)).trans (fK ..).symm
variable {m:eM} {bf:Array eJ}
theorem oS (h:m.heap.get? y=some (gw "tuple" bf a)):m.TypeIs (.ref y) "tuple":=ei _ h rfl
variable {aG:eJ->eM->Prop}
theorem LJ (G:oR a i):∀{v:eJ} {A:ji} {d:eM} {Q:Int->eM->Prop},RV c d.heap v i->A.units+10*a+20<vC->
 Q (IA i) {d with toks:=d.toks+Dx i}->gf (hX c.prog c.w) A (pyHash v) Q aG d:=by
 induction G with
 |int _ K=>intro v A d Q q g h;refine r5 v (gr q) λt=>?_;exact wpAny_pyHash_int h
 |tup a y I C=>
  intro v A d Q q g h
  refine g6 v (iG q) λk L n j B m=>?_
  have f:d.TypeIs (.ref k) "tuple":=oS j
  unfold pyHash pyHashByItsType
  refine b5 (wpAny_cRoomFor_or (.inr (by exact u0 g)) ?_)
  refine b5 (rU f tM.lookup ?_)
  refine nY (decide_eq_false λz=>gO ((beq_builtin_none _).symm.trans z)) ?_
  refine b5 (rU f tM.lookup ?_)
  show gf _ _ (callSpecialIfBoundUnlessNone? (.ref k) "__hash__" _>>= _) Q aG d
  refine b5 (wpAny_callSpecialIfBoundUnlessNone?_slot f tM (nq tM f F.entry_tuple_hash ?_ (F.args_tuple_hash_1 _)))
  show gf _ _ (wQ (.ref k)>>= _) _ _ d
  refine b5 (z9 j rfl ?_)
  refine b5 ?_
  rw [<-JB]
  refine qR _
   (λw (b:Array Int) p=>∃done left,y=done++left/\h_ c d.heap w left/\b.toList=wb done/\p={d with toks:=d.toks+rM done})
   _ ?_ ?_ _ _ (pk [] y rfl m rfl rfl)
  .clear h j B m f;intro x w b p z;refine nZ z λdone left e l r u=>?_
   refine jU (yh l) λi J D E H=>?_
   rw [D] at e
   rw [u]
   refine b5 (C i (by rw [e];exact fU _ (.head _)) (d:={d with toks:=d.toks+rM done}) E (by simp only [Around.in1_units];exact u1 g) ?_)
   refine dk (pk (done++[i]) J (e.trans (List.append_cons ..)) H (by rw [sq,r,BS];rfl) ?_)
   rw [Av,<-fK];rfl
  .intro b p z;refine nZ z λdone left e l r u=>?_
   clear C g j B f I m
   rw [E4 l,eT] at e
   rw [e] at h
   show gf _ _ (retInt (qg b.toList)) _ _ _
   rw [r,u]
   refine wpAny_ret_mkInt ?_
   have h:Q (QX (qg (wb done))) {d with toks:=d.toks+(rM done+1)}:=h
   rw [<-fK] at h
   unfold QX at h
   refine wpAny_ite_split (λo=>?_) λo=>?_
   .rw [if_pos o] at h;exact dk h
   .rw [if_neg o] at h;exact b5 (nI (dk h))
theorem JI (I:oR a i):∀{d:Nat} {v:eJ} {A:ji} {s:eM} {Q:Bool->eM->Prop},a<=d->RV c s.heap v i->Q true s->gf (hX c.prog c.w) A (eqIsQuiet d v) Q aG s:=by
 induction I with
 |int _ O=>intro d v A s Q b q h;refine r5 v (gr q) λt=>?_;rw [eqIsQuiet_byValue _ rfl];exact dk h
 |tup a u L B=>
  intro d v A s Q b q h
  refine g6 v (iG q) λo K n g w k=>?_
  have j:s.TypeIs (.ref o) "tuple":=oS g
  induction d using ja with
  |zero=>exact absurd b (Jx _)
  |succ d=>
  unfold eqIsQuiet
  refine b5 (rU j F.slot_tuple_eq.lookup ?_)
  show gf _ _ (Ze (.ref o) (.type "tuple")>>= _) _ _ s
  refine b5 (SM j N4 ?_)
  refine nY rfl ?_
  refine b5 (sX g rfl ?_)
  refine b5 ?_
  show gf _ _ (forIn K _ _) _ _ s
  rw [<-JB]
  refine qR _ (λp r l=>r.1=none/\l=s/\∃left,h_ c s.heap p left/\∀x∈left,x∈u) _ ?_ ?_ _ _ ⟨rfl,rfl,u,k,λ_ h=>h⟩
  .clear h g w k j;intro v p r l z;refine Dn z λf e left E m=>?_
   refine jU (yh E) λi M C D J=>?_
   rw [C] at m
   rw [e]
   refine b5 (B i (m i (.head _)) (gL b) D ?_)
   refine nY rfl ?_
   exact dk ⟨rfl,rfl,M,J,λy G=>m y (.tail _ G)⟩
  .clear B L g w k j b;intro r l z;refine mT z λf e _=>?_
   obtain ⟨H,N⟩:=r
   have f:H=none:=f
   rw [f,e]
   exact dk h
theorem oR.plain (q:oR a i):iF a i:=by
 induction q with
 |int n d=>exact .int _ d
 |tup n b _ c=>exact .tup _ b c
theorem iF.le (b:a<=d) (q:iF a i):iF d i:=by
 induction q generalizing d with
 |int n g=>exact .int _ g
 |str n s h=>exact .str _ s h
 |tup n e _ f=>
  induction d using ja with
  |zero=>exact absurd b (Jx _)
  |succ d=>exact .tup _ e λx c=>f x c (gL b)
theorem OT:∀{g:List AV} {h:List eJ},(∀x∈l,∀y∈g,∀v,RV c H v x->RV c H v y->x=y)->h_ c H h l->h_ c H h g->l=g:=by
 induction l with
 |nil=>intro g h _ j f;rw [Dw j] at f;exact (E4 f).symm
 |cons x l p=>
  intro g h i j f
  refine jU (xe j) λv q e a b=>?_
  rw [e] at f
  refine jU (yh f) λy r o k d=>?_
  rw [o] at i⊢
  exact congr (congrArg Of (i x (.head _) y (.head _) v a k)) (p (λx n y m=>i x (.tail _ n) y (.tail _ m)) b d)
theorem JJ (l:iF a i) (h:iF d af) (q:RV c H J i) (p:RV c H J af):i=af:=by
 induction l generalizing d af J with
 |int _ C=>
  refine kf (gr q) λt f=>?_
  induction h using iF.casesOn with
  |int _ j=>exact kf (gr p) λu e=>congrArg AV.int (Value.int.inj (f.symm.trans e)).1
  |str _ s _=>refine i_ (Ar p) λs u e _=>?_;have:=f.symm.trans e;contradiction
  |tup _ o _=>refine nc (iG p) λk _ _ e _ _ _=>?_;have:=f.symm.trans e;contradiction
 |str _ s _=>
  refine i_ (Ar q) λE t f A=>?_
  induction h using iF.casesOn with
  |int _ j=>refine kf (gr p) λu e=>?_;have:=f.symm.trans e;contradiction
  |str _ s _=>exact i_ (Ar p) λK u e v=>congrArg AV.str (A.trans ((congrArg (λz:j9=>z.cps.toList) (Value.str.inj (f.symm.trans e)).1).trans v.symm))
  |tup _ o _=>refine nc (iG p) λk _ _ e _ _ _=>?_;have:=f.symm.trans e;contradiction
 |tup a D G B=>
  refine nc (iG q) λk I m f x _ w=>?_
  induction h using iF.casesOn with
  |int _ j=>refine kf (gr p) λu e=>?_;have:=f.symm.trans e;contradiction
  |str _ s _=>refine i_ (Ar p) λs u e _=>?_;have:=f.symm.trans e;contradiction
  |tup _ o y=>
   refine nc (iG p) λb L F e r _ n=>?_
   rw [<-Value.ref.inj (f.symm.trans e)] at r
   have g:=d5 (x.symm.trans r)
   injection g with _ _ g _
   injection g with g _
   rw [<-g] at n
   exact congrArg AV.tup (OT (λi l af h J k b=>B i l (y af h) k b) w n)
noncomputable instance:DecidableEq AV:=λa b=>Xb (a=b)
noncomputable def tupK (B:Base):HeapKind B.prog B.w AV where
 is:=λh k a=>JF k/\RV B h (.ref a) k
 hash:=IA
 draws:=Dx
 room:=λA=>A.units+100<vC
 inj:=λhx hy=>JJ hx.1.2.plain hy.1.2.plain hx.2 hy.2
 keeps:=λx ho hd hs=>⟨x.1,x.2.mono λa o e f=>(hs.2 a λq=>by
  subst q;rw [ho] at e;(injection e with e;subst e)
  exact f.2.1 _ _ hd).trans e⟩
 pyHash:=λhu hk h=>LJ hk.1.2 hk.2 (by exact ul 60 hu rfl) h
 eqBool:=λ{A E s x y a b Q} hu hx hy h=>by
  obtain ⟨as,ra⟩:=j0 hx.1.2.plain hx.2
  obtain ⟨bs,rb⟩:=j0 hy.1.2.plain hy.2
  refine eqBoolOverData _ _ _ _ _ _ _ _ _ _ _ _ ra rb (iy hx.1.2.plain).1 (iy hy.1.2.plain).1 ?_ ?_
  .have:=(iy hx.1.2.plain).2
   exact um hu this rfl
  .have e:mZ (toPy x) (toPy y)=decide (x=y):=by
    have:=xg hx.1.2.plain hy.1.2.plain
    by_cases q:x=y
    .rw [decide_eq_true q];exact this.mpr q
    .rw [decide_eq_false q]
     cases z:mZ (toPy x) (toPy y) with
     |false=>rfl
     |true=>exact absurd (this.mp z) q
   rw [e];exact h
 quiet:=λhk h=>JI hk.1.2 (by decide) hk.2 h
section
section
variable {prog:GH} {w:Y6} {K:Type} [DecidableEq K] {knd:KeyKind prog w K} {A:ji} {E:eJ->eM->Prop} {s:eM}
theorem Hf {es:Array pX} {kvs:List (K×eJ)} (hp:Pairs knd es.toList kvs) (k:K):(es.findIdx? λe=>knd.is k e.key)=kvs.findIdx? λkv=>decide (kv.1=k):=by
 rw [<-hp.findIdx k];clear hp;obtain ⟨l⟩:=es;simp
theorem tV {kvs:List (K×eJ)} {k:K} {i:Nat} (h:(kvs.findIdx? λkv=>decide (kv.1=k))=some i):∃v,jb kvs k=some v/\kvs[i]? =some (k,v):=by
 induction kvs generalizing i with
 |nil=>simp at h
 |cons p r ih=>
  rw [KX] at h
  by_cases hk:p.1=k
  .simp only [hk,decide_true,if_true,jO] at h
   clear ih;subst h;subst hk
   exact ei p.2 (by simp [jb]) rfl
  .simp only [hk,decide_false,fY,if_false] at h
   refine iQ i (fX.mp h) λj hj=>?_
   refine eS (ih hj) λv hv he=>?_
   exact ei v (by simpa [jb,qN,hk] using hv) (by simpa using he)
theorem tW {kvs:List (K×eJ)} {k:K} (h:(kvs.findIdx? λkv=>decide (kv.1=k))=none):jb kvs k=none:=by
 rw [List.findIdx?_eq_none_iff] at h
 simp only [jb,EB,jh]
 intro x hx;simpa using h x hx
theorem JK {es:List pX} {kvs:List (K×eJ)} (hp:Pairs knd es kvs):∀{i:Nat} {p:K×eJ},kvs[i]? =some p->∃e,es[i]? =some e/\e.val=p.2:=by
 induction hp with
 |nil=>intro i p h;simp at h
 |cons h1 h2 _ ih=>
  intro i p h
  induction i using ja with
  |zero=>simp only [tP,jO] at h;subst h;exact ei _ rfl h2
  |succ j=>exact ih (by simpa using h)
theorem Aw {d:g0} {kvs:List (K×eJ)} {k:K} {key v:eJ} {ep:Nat} {pt:Option eJ} {Q:Unit->eM->Prop} (hkey:knd.is k key=true) {o:Zi} {es:Array pX} (ho:s.heap.get? d=some o) (hc:o.ExactDict) (hd:o.data= .dict es ep) (hk:KeysOf knd es)
 (hp:Pairs knd es.toList kvs) (hn:(kvs.map (·.1)).Nodup) (hi:(es.findIdx? λe=>knd.is k e.key)=none) (hsz:kvs.length<=x9)
 (hQ:∀h',h'.DictAt knd d (kvs++[(k,v)]) (ep+1)->iJ d s.heap h'->Q () {s with heap:=h'}):
 gf (hX prog w) A (updateDictKeys d (·.push ⟨knd.hash k,key,v⟩) pt) Q E s:=by
 have hes:es.size<=sizeLine:=by
  have e1:=hp.length
  have e2:es.toList.length=es.size:=by simp
  exact n1 (e2.symm.trans e1) hsz
 have hnot:k∉kvs.map (·.1):=not_mem_of_findIdx_none (by rw [<-Hf hp];exact hi)
 refine wpAny_updateDictKeys (hz:=hes) ho hd (hQ _ (n7 _ _ (nH _ ho (KU (Ju hd _))) (hc.mapDictKeys _) (Ju hd _) (hk.push hkey _) ?_ ?_) (gM ..))
 .have:=hp.append hkey (knd.hash k) v
  clear hkey ho hc hd hk hp hn hi hsz hQ hes hnot;obtain ⟨l⟩:=es
  simpa using this
 .rw [b_,eQ]
  exact iD hn (by simp) (λa ha b hb e=>by simp at hb;exact hnot (hb▸e▸ha))
theorem BU {d:g0} {kvs:List (K×eJ)} {k:K} {key dflt:eJ} {ep:Nat} {Q:eJ->eM->Prop} (hkey:knd.is k key=true) (hm:s.heap.DictAt knd d kvs ep)
 (h1:∀v,jb kvs k=some v->Q v {s with toks:=s.toks+1})
 (h2:jb kvs k=none->∀h',h'.DictAt knd d (kvs++[(k,dflt)]) (ep+1)->iJ d s.heap h'->Q dflt {s with heap:=h',toks:=s.toks+1})
 (hsz:kvs.length<=x9):gf (hX prog w) A (GV d key dflt) Q E s:=by
 refine iW hm λo es ho hc hd hk hp hn=>?_
 unfold GV
 try with_reducible refine f7 ?_
 refine b5 (knd.pyHash hkey ?_)
 refine b5 (Sa (s:={s with toks:=s.toks+1}) hkey ho hd hk ?_)
 have hidx:=Hf hp k
 induction hi:es.findIdx? λe=>knd.is k e.key with
 |some i=>
  refine eS (tV (hidx▸hi)) λv hv hget=>?_
  refine eS (JK hp hget) λe he hev=>?_
  refine b5 (wpAny_dictEntries (s:={s with toks:=s.toks+1}) ho hd ?_)
  rw [gG] at he
  rw [he]
  exact b5 (nI (dk (hev▸h1 v hv)))
 |none=>
  refine b5 (nI (b5 (Aw (s:={s with toks:=s.toks+1}) hkey ho hc hd hk hp hn hi hsz λh' hm' hs'=>dk ?_)))
  exact h2 (tW (hidx▸hi)) h' hm' hs'
theorem wc {d:g0} {kvs:List (K×eJ)} {k:K} {key v:eJ} {ep:Nat} {Q:Unit->eM->Prop} (hkey:knd.is k key=true) (hm:s.heap.DictAt knd d kvs ep)
 (h1:∀h',jb kvs k≠none->h'.DictAt knd d (kvs.map λkv=>if kv.1=k then (kv.1,v) else kv) ep->iJ d s.heap h'->Q () {s with heap:=h',toks:=s.toks+1})
 (h2:∀h',jb kvs k=none->h'.DictAt knd d (kvs++[(k,v)]) (ep+1)->iJ d s.heap h'->Q () {s with heap:=h',toks:=s.toks+1})
 (hsz:kvs.length<=x9):gf (hX prog w) A (K6 d key v) Q E s:=by
 refine iW hm λo es ho hc hd hk hp hn=>?_
 unfold K6
 try with_reducible refine f7 ?_
 refine b5 (knd.pyHash hkey ?_)
 unfold dictSetHashed
 try with_reducible refine f7 ?_
 refine b5 (Sa (s:={s with toks:=s.toks+1}) hkey ho hd hk ?_)
 have hidx:=Hf hp k
 induction hi:es.findIdx? λe=>knd.is k e.key with
 |some i=>
  have hany:(kvs.any λkv=>decide (kv.1=k))=true:=any_of_findIdx_some (hidx▸hi)
  refine eS (tV (hidx▸hi)) λv₀ hv _=>?_
  refine b5 (nI (b5 (wpAny_updateDict (s:={s with toks:=s.toks+1}) ho hd (wpAny_point (h1 _ (by rw [hv];simp) (n7 _ _ (nH _ ho (KU (OC hd _))) (hc.mapDict _) (OC hd _) (hk.modify _ _) ?_ ?_) (gM ..))))))
  .have hl:(es.toList.findIdx? λe=>knd.is k e.key)=some i:=by rw [<-hi];clear hkey h1 h2 hsz ho hc hd hk hidx hi hany hv;obtain ⟨l⟩:=es;simp
   have:=hp.modify hn hl v
   clear hkey h1 h2 hsz ho hc hd hk hp hn hidx hi hany hv hl;obtain ⟨l⟩:=es
   simpa using this
  .have:=keys_map_store kvs k v
   rw [this];exact hn
 |none=>
  refine b5 (nI (Aw (s:={s with toks:=s.toks+1}) hkey ho hc hd hk hp hn hi hsz λh' hm' hs'=>?_))
  exact h2 h' (tW (hidx▸hi)) hm' hs'
end
end
inductive RD (B:Base) (h:vY) (a:g0):List (AV×AV)->Prop where
 |int {kvs:List (Int×eJ)} {pvs:List (AV×AV)}:h.DictAt (ub B) a kvs kvs.length->h_ B h (kvs.map (·.2)) (pvs.map (·.2))->pvs.map (·.1)=kvs.map (λp=>.int p.1)->RD B h a pvs
 |tup {tvs:List (AV×g0×eJ)} {pvs:List (AV×AV)}:h.DictOfH (tupK B) a tvs->h_ B h (tvs.map (·.2.2)) (pvs.map (·.2))->pvs.map (·.1)=tvs.map (·.1)->pvs≠[]->RD B h a pvs
inductive yj (B:Base) (h:vY):List pX->List (Nat×AV)->Prop where
 |nil:yj B h [] []
 |cons {e:pX} {x:Nat} {v:AV} {es:List pX} {fs:List (Nat×AV)} (n:j9) (t:Tok):AT[x]? =some n->e.key= .str n t->RV B h e.val v->yj B h es fs->yj B h (e::es) ((x,v)::fs)
inductive RO (B:Base) (h:vY) (a:g0):AO->Prop where
 |list {its:Array eJ} {n:Nat} {xs:List AV}:h.get? a=some (listOf its n)->h_ B h its.toList xs->xs.length<=fG->RO B h a (.list xs)
 |dict {kvs:List (AV×AV)}:RD B h a kvs->kvs.length<=fG->RO B h a (.dict kvs)
 |inst {c dx:Nat} {es:List pX} {n:Nat} {fs:List (Nat×AV)}:h.get? a=some (uh (B.ca c) dx)->h.get? dx=some (rB es n)->yj B h es fs->(fs.map (·.1)).Nodup->c<10->RO B h a (.inst c dx fs)
noncomputable def ik (B:Base) (st:AS) (b:g0):Prop:=st b≠none\/(∃a c fs,st a=some (.inst c b fs))\/b=B.tab
noncomputable def uD (h:vY) (cv:eJ) (q:j9):Prop:=∃c o vs t,cv= .ref c/\h.get? c=some o/\gc o/\o.data= .fields vs/\vs[1]? =some (.str q t)
theorem uD.mono (x:uD H J ao) (g:∀a o,H.get? a=some o->gc o->b8.get? a=some o):uD b8 J ao:=
 ye x λc o d t e b f r=>(vf c o d t e (g c o b f) f r)
noncomputable def IB (B:Base) (h:vY):Prop:=∃ps,h.get? B.tab=some (K9 ps)/\S3 ps.toList/\∀pos cv,yV pos ps.toList=some cv->uD h cv B.He
theorem IB.mono (x:IB c H) (g:∀a o,H.get? a=some o->gc o->b8.get? a=some o) (f:∀o,H.get? c.tab=some o->b8.get? c.tab=some o):IB c b8:=
 gi x λps e t b=>(gp ps (f _ e) t (λp d q=>(b p d q).mono g))
structure R (B:Base) (st:AS) (s:eM):Prop where
 objs:∀a o,st a=some o->RO B s.heap a o
 old:∀b o,B.h₀.get? b=some o->s.heap.get? b=some o
 new:∀b,ik B st b->B.h₀.get? b=none
 Cv:∀a c dx fs,st a=some (.inst c dx fs)->st dx=none/\dx≠B.tab/\∀b c' fs',st b=some (.inst c' dx fs')->b=a
 vF:st B.tab=none
 tab:IB B s.heap
 gens:s.gens=#[]
 os:s.os=B.os
structure St (B:Base) (st:AS) (s:eM) (st':AS) (s':eM):Prop where
 keep:∀b o,s.heap.get? b=some o->¬ik B st b->s'.heap.get? b=some o
 foot:∀b,ik B st' b->ik B st b\/s.heap.get? b=none
structure fI (s s':eM):Prop where
 keep:∀b o,s.heap.get? b=some o->s'.heap.get? b=some o
 gens:s'.gens=s.gens
 os:s'.os=s.os
theorem fI.refl (s:eM):fI s s:=⟨λ_ _ e=>e,rfl,rfl⟩
open Mine.fI renaming refl->hU
variable {ab aU:eM}
theorem fI.trans (x:fI m ab) (y:fI ab aU):fI m aU:=⟨λp o e=>y.keep p o (x.keep p o e),y.gens.trans x.gens,y.os.trans x.os⟩
theorem fI.toks (s:eM) (t:Nat):fI s {s with toks:=t}:=⟨λ_ _ e=>e,rfl,rfl⟩
open Mine.fI renaming toks->iV
theorem fI.of_keep (c:∀b o,m.heap.get? b=some o->H.get? b=some o):fI m {m with heap:=H,toks:=a}:=⟨c,rfl,rfl⟩
open Mine.fI renaming of_keep->qB
theorem fI.push (s:eM) (o:Zi):fI s {s with heap:=s.heap.push o}:=⟨λ_ _ e=>fq o e,rfl,rfl⟩
open Mine.fI renaming push->jA
theorem RV.grow {x:AV} (r:RV c m.heap J x) (g:fI m ab):RV c ab.heap J x:=r.mono λa o e _=>g.keep a o e
theorem h_.grow (r:h_ c m.heap aj l) (g:fI m ab):h_ c ab.heap aj l:=r.mono λa o e _=>g.keep a o e
variable {aC:List (AV×AV)}
theorem RD.mono (r:RD c H y aC) (g:∀y o,H.get? y=some o->gc o->b8.get? y=some o) (i:∀x,H.get? y=some x->b8.get? y=some x):RD c b8 y aC:=by
 induction r with
 |int d q e=>
  refine i_ d λo b f r=>?_
  exact .int (nE o b (i _ f) r) (q.mono g) e
 |tup d q e j=>
  refine qZ d λo b k f a l n h m=>?_
  exact .tup ⟨o,b,k,(i _ f),a,l,n,(λx a=>⟨(h x a).1,(h x a).2.mono g⟩),m⟩ (q.mono g) e j
theorem RD.obj (r:RD c H y aC):∃o a b,H.get? y=some o/\o.ExactDict/\o.data= .dict a b/\a.size=aC.length:=by
 induction r with
 |int d q e=>
  refine iW d λo a f h g _ i _=>?_
  exact sA o a _ f h g (by rw [<-eD,i.length];have:=congrArg fk e;simpa using this.symm)
 |tup d q e k=>
  refine oY d λo a b f h g j _=>?_
  exact sA o a b f h g (by rw [<-eD,j];have:=congrArg fk e;simpa using this.symm)
theorem RD.nodup (r:RD c H y aC):(aC.map (·.1)).Nodup:=by
 induction r with
 |int d q e=>
  refine iW d λo b f h g _ k a=>?_
  rw [e,show (λp:Int×eJ=>AV.int p.1)=(AV.int∘λp:Int×eJ=>p.1) from rfl,<-ew]
  exact gk.mpr (mO (λH e=>H (by injection e)) a)
 |tup d q e i=>
  refine qZ d λo b j f h g l _ a=>?_
  rw [e];exact a
theorem RD.keys (r:RD c H y aC):IntKeys aC\/∀p∈aC,JF p.1:=by
 cases r with
 |int d q e=>
  refine .inl λp b=>?_
  have:p.1∈aC.map (·.1):=ck.mpr (ei p b rfl)
  rw [e] at this
  refine eS (ck.mp this) λx _ a=>?_
  exact oq x.1 a.symm
 |tup d q e i=>
  refine qZ d λo h j k a l n f m=>?_
  refine .inr λp b=>?_
  have:p.1∈aC.map (·.1):=ck.mpr (ei p b rfl)
  rw [e] at this
  refine eS (ck.mp this) λx g a=>?_
  rw [<-a];exact (f x g).1
theorem RD.GQ (r:RD c H y aC) (s:IntKeys aC):∃a,H.DictAt (ub c) y a a.length/\h_ c H (a.map (·.2)) (aC.map (·.2))/\aC.map (·.1)=a.map (λp=>.int p.1):=by
 cases r with
 |int d q e=>exact gp _ d q e
 | @tup j _ d q e b=>
  refine qZ d λo x z h v l w u n=>?_
  clear q h v l w n;clear d;induction aC using el with
  |nil=>exact absurd rfl b
  |cons p ps=>
   clear b;induction j using el with
   |nil=>contradiction
   |cons t B=>
    refine kf (s p (.head _)) λi g=>?_
    have f:p.1=t.1:=by injection e
    refine iP (u t (.head _)).1 λm _=>?_;refine kf m λA k=>?_
    rw [<-f,g] at k;contradiction
theorem RD.VP (r:RD c H y aC) (g:∀p∈aC,JF p.1):∃a,H.DictOfH (tupK c) y a/\h_ c H (a.map (·.2.2)) (aC.map (·.2))/\aC.map (·.1)=a.map (·.1):=by
 cases r with
 |tup d q e z=>exact gp _ d q e
 | @int x _ d q e=>
  refine iW d λo b k u m v f s=>?_
  clear q v s;clear d;induction x using el with
  |nil=>
   have w:aC=[]:=by simpa using e
   clear g e;subst w
   generalize i:b.toList=l at f
   cases f
   exact gp [] ⟨o,b,_,k,u,m,i,by simp,eH⟩ .nil rfl
  |cons t B=>
   induction aC using el with
   |nil=>contradiction
   |cons p ps=>
    refine iP (g p (.head _)) λn _=>?_;obtain ⟨A,j⟩:=n
    have h:p.1= .int t.1:=by injection e
    rw [j] at h;contradiction
variable {bG:List pX}
theorem yj.mono (d:∀a o,H.get? a=some o->gc o->b8.get? a=some o) (q:yj c H bG aT):yj c b8 bG aT:=by
 induction q with
 |nil=>exact .nil
 |cons n t a b e _ r=>exact .cons n t a b (e.mono d) r
theorem RO.mono (r:RO c H y av) (b:∀y av,H.get? y=some av->gc av->b8.get? y=some av) (f:∀x,H.get? y=some x->b8.get? y=some x) (h:∀g a j,av= .inst g a j->∀x,H.get? a=some x->b8.get? a=some x):RO c b8 y av:=by
 induction r with
 |list e q l=>exact .list (f _ e) (q.mono b) l
 |dict d l=>exact .dict (d.mono b f) l
 |inst e d q i l=>exact .inst (f _ e) (h _ _ _ rfl _ d) (q.mono b) i l
theorem RO.grow (r:RO c m.heap y av) (g:fI m ab):RO c ab.heap y av:=r.mono (λy av e _=>g.keep y av e) (λx e=>g.keep _ _ e) (λ_ _ _ _ _ e=>g.keep _ _ e)
theorem R.grow (r:R c b m) (g:fI m ab):R c b ab where
 objs a o e:=(r.objs a o e).grow g
 old d o e:=g.keep _ _ (r.old d o e)
 new:=r.new
 Cv:=r.Cv
 vF:=r.vF
 tab:=r.tab.mono (λa o e _=>g.keep a o e) λo e=>g.keep _ o e
 gens:=g.gens.trans r.gens
 os:=g.os.trans r.os
theorem St.grow (g:fI m ab):St c b m b ab:=⟨λa o e _=>g.keep a o e,λ_ f=>.inl f⟩
open Mine.St renaming grow->ED
theorem St.refl:St c b m b m:=ED (hU m)
theorem St.trans (x:St c b m p ab) (y:St c p ab ax aU):St c b m ax aU where
 keep a o e f:=y.keep a o (x.keep a o e f) λg=>(x.foot a g).elim f λl=>nomatch e.symm.trans l
 foot a f:=(y.foot a f).elim (x.foot a) λl=>by
  by_cases d:ik c b a
  .exact .inl d
  .induction e:m.heap.get? a with
   |none=>exact .inr rfl
   |some o=>exact nomatch (x.keep a o e d).symm.trans l
theorem qH (a:Array eJ) (n:Nat):¬gc (listOf a n):=λq=>by
 rcases q.1 with q |q |q<;>exact absurd (show (wO "list")=wO _ from q) (by decide)
variable {cj:Zi}
theorem rN {es ep} (h:cj.data= .dict es ep):¬gc cj:=λq=>q.2.1 _ _ h
theorem OU (c d:g0):¬gc (uh c d):=λq=>by
 rcases q.1 with q |q |q<;>exact KS (show (La c)=wO _ from q)
theorem LK (a:Array eJ):¬gc (K9 a):=λq=>by
 rcases q.1 with q |q |q<;>exact KS (show jr=wO _ from q)
theorem R.oH (r:R c b m) (f:ik c b y):∃o,m.heap.get? y=some o/\¬gc o:=by
 rcases f with f |⟨a,i,k,e⟩ |rfl
 .induction e:b y using d_ with
  |none=>exact absurd e f
  |some o=>
   induction r.objs y o e using RO.casesOn with
   |list q _ _=>exact ei _ q (qH _ _)
   |dict q _=>refine nc q.obj λo h j d _ g _=>?_;exact ei _ d (rN g)
   |inst q _ _ _ _=>exact ei _ q (OU _ _)
 .cases r.objs a _ e with
  |inst _ q _ _ _=>exact ei _ q (rN rfl)
 .refine eS r.tab λps e _=>?_
  exact ei _ e (LK _)
theorem R.OV (r:R c b m) (f:ik c b y):y<m.heap.objs.size:=eS (r.oH f) λ_ e _=>rv e
theorem St.frozen (r:R c b m) (x:St c b m p ab):∀a o,m.heap.get? a=some o->gc o->ab.heap.get? a=some o:=λa o e f=>
 x.keep a o e λq=>by
  refine eS (r.oH q) λg d n=>?_
  rw [e] at d;obtain rfl:=d5 d;exact n f
theorem RV.step (q:RV c m.heap J i) (r:R c b m) (y:St c b m p ab):RV c ab.heap J i:=q.mono (y.frozen r)
theorem h_.step (q:h_ c m.heap aj l) (r:R c b m) (y:St c b m p ab):h_ c ab.heap aj l:=q.mono (y.frozen r)
theorem ik.le (d:eC b p) (f:ik c b y):ik c p y:=by
 rcases f with f |⟨a,g,h,e⟩ |rfl
 .induction e:b y using d_ with
  |none=>exact absurd e f
  |some o=>exact .inl (by rw [d y o e];simp)
 .exact .inr (.inl (qC a g h (d a _ e)))
 .exact .inr (.inr rfl)
theorem R.le (r:R c p m) (d:eC b p):R c b m where
 objs a o e:=r.objs a o (d a o e)
 old:=r.old
 new g f:=r.new g (f.le d)
 Cv a l h t e:=by
  refine mT (r.Cv a l h t (d _ _ e)) λj k u=>?_
  refine iD ?_ k (λg s i n=>u g s i (d _ _ n))
  induction q:b h using d_ with
  |none=>rfl
  |some o=>rw [d _ _ q] at j;contradiction
 vF:=by
  induction q:b c.tab using d_ with
  |none=>rfl
  |some o=>have:=r.vF;rw [d _ _ q] at this;contradiction
 tab:=r.tab
 gens:=r.gens
 os:=r.os
theorem St.le (x:St c b m p ab) (a:eC ax p):St c b m ax ab:=⟨x.keep,λd f=>x.foot d (f.le a)⟩
theorem sD (x:j9):∀l:List (j9×h),ic l x=l.lookup x:=by
 intro d
 induction d with
 |nil=>
  exact rfl
 |cons c r b=>
  obtain ⟨y,v⟩:=c
  rw [ti,eN]
  by_cases a:x=y
  .subst a;simp
  .rw [if_neg a,beq_false_of_ne a,b]
theorem pv:∀{l:List j9} {x:j9} {i:Nat},r9 l x=some i->l[i]? =some x:=by
 intro c
 induction c with
 |nil=>
  intro _ _ h
  contradiction
 |cons y r a=>
  intro x i h
  rw [Cp] at h
  by_cases e:x=y
  .rw [if_pos e] at h;obtain rfl:=d5 h;subst e;rfl
  .rw [if_neg e] at h
   refine iQ i (fX.mp h) λj b=>?_
   exact (tQ ..).trans (a b)
theorem Hg:ao∈slots r->(r.map (·.1)).Nodup->∃k,ic r ao=some k/\isVar k=true:=by
 intro d b
 refine iQ ao (ck.mp d) λp c=>?_
 have a:=(gC.mp c).1
 refine ei p.2 ?_ (gC.mp c).2
 clear d c
 induction r with
 |nil=>exact (eg a).elim
 |cons y g f=>
  obtain ⟨n,k⟩:=y
  rw [eI,eU] at b
  rw [ti]
  rcases eL.mp a with rfl |a
  .simp
  .rw [if_neg (λe:p.1=n=>b.1 (by rw [<-e];exact ck.mpr (ei p a rfl)))]
   exact f b.2 a
structure TG (env:yX) (ns:gq):Prop where
 kind:env.scope.kind= .function
 nd:(ns.map (·.1)).Nodup
 loc:∀x,ic ns x=some .local->env.kindOf x=some .local
 var:∀x k,ic ns x=some k->k= .cell\/k= .free->(env.kindOf x=some .cell\/env.kindOf x=some .free)/\∃c,env.cells.lookup x=some c
 own:∀x,ic ns x=some .cell->env.kindOf x=some .cell
 glob:∀x,ic ns x=some .globalImplicit->env.kindOf x=some .globalImplicit
 globals:env.globals=iI
 builtins:env.builtins=j3
 apart:∀x y c,env.cells.lookup x=some c->env.cells.lookup y=some c->x=y
 Hh:∀x c,env.cells.lookup x=some c->env.locals≠c
 E6:env.kindOf "__classdict__"=none
noncomputable def Dy (B:Base) (env:yX) (h:vY) (x:j9) (v:AV):Prop:=
 (env.kindOf x=some .local/\∃f val,h.Ns env.locals f/\f x=some val/\RV B h val v)\/
 (env.kindOf x≠some .local/\∃c val,env.cells.lookup x=some c/\h.IsCell c (some val)/\RV B h val v)
structure FR (B:Base) (env:yX) (ns:gq) (m:MM) (st:AS) (s:eM):Prop where
 ok:TG env ns
 holds:∀(i:Nat) x v,(slots ns)[i]? =some x->m[i]? =some (some v)->Dy B env s.heap x v
 len:m.length=(slots ns).length
 Ax:∃f,s.heap.Ns env.locals f
 Cw:¬ik B st env.locals/\B.h₀.get? env.locals=none
 BV:∀x c,env.cells.lookup x=some c->¬ik B st c/\B.h₀.get? c=none/\∃v,s.heap.IsCell c v
 code:BR ns=true->env.code= .ref B.lc/\env.qual=B.E3
variable {aa:yX}
theorem Dy.mono (a:Dy c aa H ao i) (h:∀a o,H.get? a=some o->gc o->b8.get? a=some o) (n:∀o,H.get? aa.locals=some o->b8.get? aa.locals=some o) (p:∀ao b,aa.cells.lookup ao=some b->∀o,H.get? b=some o->b8.get? b=some o):Dy c aa b8 ao i:=by
 rcases a with ⟨k,f,d,⟨o,l,m,g,r⟩,e,q⟩ |⟨k,b,d,j,⟨o,g,r⟩,q⟩
 .exact .inl (n0 k f d ⟨o,l,m,n _ g,r⟩ e (q.mono h))
 .exact .inr (n0 k b d j ⟨o,p _ _ j _ g,r⟩ (q.mono h))
variable {e:MM}
theorem FR.step (x:FR c aa r e b m) (z:R c b m) (y:St c b m p ab):FR c aa r e p ab where
 ok:=x.ok
 holds i n v t A:=(x.holds i n v t A).mono (y.frozen z) (λo a=>y.keep _ _ a x.Cw.1) (λn g h o a=>y.keep _ _ a (x.BV n g h).1)
 len:=x.len
 Ax:=w' x.Ax λf o k u d q=>⟨f,o,k,u,(y.keep _ _ d x.Cw.1),q⟩
 Cw:=⟨λf=>(y.foot _ f).elim x.Cw.1 (λl=>by
  refine w' x.Ax λf o _ _ a _=>?_
  rw [l] at a;contradiction),x.Cw.2⟩
 BV n g h:=by
  refine oO (x.BV n g h) λj s v o d w=>?_
  exact rL (λf=>(y.foot _ f).elim j (λl=>by rw [l] at d;contradiction)) s v o (y.keep _ _ d j) w
 code:=x.code
theorem FR.le (x:FR c aa r e p m) (g:eC b p):FR c aa r e b m where
 ok:=x.ok
 holds:=x.holds
 len:=x.len
 Ax:=x.Ax
 Cw:=⟨λf=>x.Cw.1 (f.le g),x.Cw.2⟩
 BV n h j:=mT (x.BV n h j) λa i d=>⟨λf=>a (f.le g),i,d⟩
 code:=x.code
inductive k_ (B:Base) (st:AS) (s:eM) (Q:AV->AS->Prop) (v:eJ) (s':eM):Prop where
 |mk (x:AV) (st':AS) (h0:RV B s'.heap v x) (h1:R B st' s') (h2:St B st s st' s') (h3:Q x st'):k_ B st s Q v s'
inductive Cx (B:Base) (st:AS) (s:eM) (Q:List AV->AS->Prop) (vs:List eJ) (s':eM):Prop where
 |mk (xs:List AV) (st':AS) (h0:h_ B s'.heap vs xs) (h1:R B st' s') (h2:St B st s st' s') (h3:Q xs st'):Cx B st s Q vs s'
inductive Ay (B:Base) (st:AS) (s:eM) (Q:Bool->AS->Prop) (b:Bool) (s':eM):Prop where
 |mk (st':AS) (h0:R B st' s') (h1:St B st s st' s') (h2:Q b st'):Ay B st s Q b s'
noncomputable def VQ:eJ->eM->Prop:=λ_ _=>False
noncomputable abbrev WE {α:Type} (B:Base) (A:ji) (t:N5 α) (Q:α->eM->Prop) (s:eM):Prop:=gf (hX B.prog B.w) A t Q VQ s
variable {n:AV->AS->Prop}
theorem post_of (r:R c b m) (g:fI m ab) (q:RV c ab.heap J i) (h:n i b):k_ c b m n J ab:=⟨i,b,q,r.grow g,.grow g,h⟩
theorem k_.trans (y:St c b m p ab) (f:k_ c p ab n J aU):k_ c b m n J aU:=let ⟨x,h,a,g,e,d⟩:=f;⟨x,h,a,g,y.trans e,d⟩
open Mine.k_ renaming trans->Ce
variable {bH:List AV->AS->Prop}
theorem Cx.trans (y:St c b m p ab) (f:Cx c p ab bH aj aU):Cx c b m bH aj aU:=let ⟨x,h,a,g,e,d⟩:=f;⟨x,h,a,g,y.trans e,d⟩
theorem Ay.trans (y:St c b m p ab) (e:Ay c p ab bM aw aU):Ay c b m bM aw aU:=let ⟨f,aw,a,d⟩:=e;⟨f,aw,y.trans a,d⟩
variable {L:ji} {cF:eJ->eM->Prop}
theorem f6 {t:N5 eJ} (h:WE c L t (k_ c b ab n) m) (k:∀v f x g,RV c f.heap v x->R c g f->St c b ab g f->n x g->aG v f):gf (hX c.prog c.w) L t aG cF m:=
 er h (λv f q=>let ⟨x,g,a,j,i,d⟩:=q;k v f x g a j i d) λ_ _ e=>e.elim
theorem xh {t:N5 (List eJ)} {P:List eJ->eM->Prop} (h:WE c L t (Cx c b ab bH) m) (k:∀v f x g,h_ c f.heap v x->R c g f->St c b ab g f->bH x g->P v f):gf (hX c.prog c.w) L t P aG m:=
 er h (λv f q=>let ⟨x,g,a,j,i,d⟩:=q;k v f x g a j i d) λ_ _ e=>e.elim
variable {cR:Bool->eM->Prop}
theorem q6 {t:N5 Bool} (h:WE c L t (Ay c b ab bM) m) (k:∀v f a,R c a f->St c b ab a f->bM v a->cR v f):gf (hX c.prog c.w) L t cR aG m:=
 er h (λv f q=>let ⟨a,i,g,d⟩:=q;k v f a i g d) λ_ _ e=>e.elim
structure mW (n:Nat) (A:ji):Prop where
 depth:A.depth+10*n<=900
 units:A.units+100*n<=9000
 handled:A.handled=none
theorem mW.le (r:mW a L) (h:d<=a):mW d L:=⟨by have:=r.depth;exact a_ (d7 (gT _ h) _) this,by have:=r.units;exact a_ (d7 (gT _ h) _) this,r.handled⟩
theorem mW.TH (r:mW a L):L.depth<recursionLimit:=by have:=r.depth;show L.depth<1000;exact r4 this
theorem mW.Az (r:mW a L):L.units+800<cLine:=by have:=r.units;show L.units+800<9900;exact r3 this
structure IC (B:Base) (c:Nat) (C:Qu):Prop where
 get:ta B.K (.ref (B.ca c)) "__getattribute__"=some (some (.builtin "object.__getattribute__"))
 Ha:ta B.K (.ref (B.ca c)) "__getattr__"=some none
 set:ta B.K (.ref (B.ca c)) "__setattr__"=some (some (.builtin "object.__setattr__"))
 plain:S1 B.K (B.ca c)=true
 dict:S2 B.K (B.ca c)=true
 makes:makesIn B.K (B.ca c)=true
 init:ta B.K (.ref (B.ca c)) "__init__"=some (some (.ref (B.fa C.init)))
 TJ:isFn B.K (.ref (B.fa C.init))=true
 TK:∀(x:Nat) nm,AT[x]? =some nm->WW B.K (B.ca c) nm=some none
 name:∀(x:Nat) nm,AT[x]? =some nm->C.meths.lookup x=none->ta B.K (.ref (B.ca c)) nm=some none
 TL:∀(x:Nat) nm f,AT[x]? =some nm->C.meths.lookup x=some f->ta B.K (.ref (B.ca c)) nm=some (some (.ref (B.fa f)))/\isFn B.K (.ref (B.fa f))=true/\
  (∃g,SY B.K (.ref (B.fa f)) "__get__"=some (some g))/\WV B.K (.ref (B.fa f))=some false
structure gX (B:Base):Prop where
 WL:B.K.In B.h₀
 g:B.h₀.Ns iI B.mg
 b:B.h₀.Ns j3 B.mb
 nolimit:B.h₀.NoLimit
 nodigits:∃mc,B.h₀.Ns cStatics mc/\mc "sys.int_max_str_digits"=none
 TM:∃o,B.h₀.get? z_=some o
 cls:∀c,c<10->∃C,PG.Dt[c]? =some C/\IC B c C
 ID:∀k,k<82->Vk B.K (.ref (B.fa k))=true
 IE:∀c,c<10->Vk B.K (.ref (B.ca c))=true
 TN:PG.fns.length=82
 LL:PG.Dt.length=10
 IF:∀x v,ic GG x=some v->∃val,(B.mg x=some val\/(B.mg x=none/\B.mb x=some val))/\RV B B.h₀ val v
noncomputable def qp (B:Base) (n:Nat):Prop:=∀(f:AV) (args:List AV) (st:AS) (Q:AV->AS->Prop) (A:ji) (fv:eJ) (vs:List eJ) (s:eM),
 eF PG n f args st Q->mW n A->R B st s->RV B s.heap fv f->h_ B s.heap vs args->WE B A (nF fv vs []) (k_ B st s Q) s
noncomputable def SE (B:Base) (n:Nat) (ns:gq) (e:gg) (c:CE):Prop:=∀(A:ji) (env:yX) (m:MM) (st:AS) (s:eM) (Q:AV->AS->Prop),
 mW n A->FR B env ns m st s->R B st s->VE PG (eF PG n) c m st Q->WE B A (vW e env) (k_ B st s Q) s
noncomputable def LM (B:Base) (n:Nat) (ns:gq) (es:List gg) (cs:wL):Prop:=∀(A:ji) (env:yX) (m:MM) (st:AS) (s:eM) (Q:List AV->AS->Prop) (pos:Eu),
 mW n A->FR B env ns m st s->R B st s->Ir PG (eF PG n) cs m st Q->WE B A (Sf (s_ pos (nr es env))) (Cx B st s λxs st'=>xs.length=cs.len/\Q xs st') s
noncomputable def ST (B:Base) (n:Nat) (ns:gq) (e:gg) (c:CE):Prop:=∀(A:ji) (env:yX) (m:MM) (st:AS) (s:eM) (Q:Bool->AS->Prop),
 mW n A->FR B env ns m st s->R B st s->VT PG (eF PG n) c (VE PG (eF PG n) c) m st Q->WE B A (Aa e env (vW e env)) (Ay B st s Q) s
theorem JL:tf=("__debug__":j9):=by unfold tf;exact (by decide+kernel:(⟨⟨[95,95,100,101,98,117,103,95,95]⟩⟩:j9)="__debug__")
theorem LN (h:ao≠tf):(ao==("__debug__":j9))=false:=by
 rw [beq_eq_false_iff_ne,<-JL];exact h
variable {ae:Eu}
theorem snd_const {g:Const} (h:LD g=some i):SE c a r (.Constant g d ae) (.cst i):=by
 intro A n m k s Q l F f e
 induction g with
 |none=>(injection h with h;subst h);exact wpAny_Constant_none (post_of f (hU _) .none e)
 |bool b=>(injection h with h;subst h);exact wpAny_Constant_bool (post_of f (hU _) (.bool b) e)
 |int j=>(injection h with h;subst h);exact QW (post_of f (iV _ _) (.int j _) e)
 |str x=>(injection h with h;subst h);exact wpAny_Constant_str (post_of f (iV _ _) (.str x _) e)
 |_=>contradiction
variable {g:CE}
set_option tactic.hygienic true in
theorem xj (p:gX c) (h:uB GG r ao=some g):SE c a r (.Name ao ae) g:=by
 intro A C m R s Q L F b d
 obtain ⟨l,h⟩:=Cr _ h
 have l:=LN l
 rcases h with ⟨n,v,M,rfl⟩ |⟨k,i,n,G,B,rfl⟩
 .obtain ⟨t,j,K⟩:=p.IF ao v M
  have q:RV c s.heap t v:=K.mono λI o e _=>b.old I o e
  refine Name_function_global F.ok.kind (F.ok.glob ao n) ?_ l
  have H:C.globals=mainGlobals:=F.ok.globals
  have J:C.builtins=builtinsNs:=F.ok.builtins
  have z:k_ c R s Q t s:=post_of b (hU _) q d
  rcases j with j |⟨j,O⟩
  .exact loadGlobal_global (H▸p.g.keeps b.old) j z
  .exact loadGlobal_builtin (H▸p.g.keeps b.old) j (J▸p.b.keeps b.old) O z
 .have E:=pv B
  obtain ⟨v,D,d⟩:=d
  refine wpAny_Name ?_ l
  rcases F.holds i ao v E D with ⟨u,f,t,P,N,q⟩ |⟨u,g,t,y,x,q⟩
  .exact wpAny_loadName_local F.ok.kind u P N (post_of b (hU _) q d)
  .rcases (F.ok.var ao k n (G.resolve_left λq=>u (F.ok.loc ao (n.trans (congrArg some q))))).1 with w |w
   .exact wpAny_loadName_cell F.ok.kind w y x (post_of b (hU _) q d)
   .refine wpAny_loadName_free F.ok.kind w y x (post_of b (hU _) q d) ?_
    rw [beq_eq_false_iff_ne];clear p L b l n B E D d u y x q G;rintro rfl
    rw [F.ok.E6] at w;contradiction
theorem ia:fG<=sizeLine:=by unfold fG;rw [nG];decide
theorem iq (h:vY):h.get? h.objs.size=none:=by
 induction e:h.get? h.objs.size with
 |none=>rfl
 |some o=>exact absurd (rv e) (jm _)
theorem R.fresh (r:R c b m):b.free m.heap.objs.size/\¬ik c b m.heap.objs.size/\c.h₀.get? m.heap.objs.size=none:=by
 have a:¬ik c b m.heap.objs.size:=λf=>absurd (r.OV f) (jm _)
 refine ⟨⟨?_,λg d h e=>a (.inr (.inl ⟨g,d,h,e⟩))⟩,a,?_⟩
 .induction e:b m.heap.objs.size using d_ with
  |none=>rfl
  |some o=>exact absurd (.inl (by rw [e];simp)) a
 .induction e:c.h₀.get? m.heap.objs.size using d_ with
  |none=>rfl
  |some o=>exact absurd (rv (r.old _ _ e)) (jm _)
theorem R.newList (r:R c b m) {k:Nat} (B:h_ c m.heap bf.toList l) (x:l.length<=fG):
 R c (b.set m.heap.objs.size (.list l)) {m with heap:=m.heap.push (listOf bf k)}/\St c b m (b.set m.heap.objs.size (.list l)) {m with heap:=m.heap.push (listOf bf k)}:=by
 refine mT r.fresh λf y D=>?_
 have g:=jA m (listOf bf k)
 have C:m.heap.objs.size≠c.tab:=λe=>y (.inr (.inr e))
 have t:∀d,ik c (b.set m.heap.objs.size (.list l)) d->ik c b d\/d=m.heap.objs.size:=by
  rintro d (h |⟨a,n,p,h⟩ |h)
  .by_cases i:d=m.heap.objs.size
   .exact .inr i
   .rw [gu i] at h;exact .inl (.inl h)
  .by_cases j:a=m.heap.objs.size
   .subst j;rw [gZ] at h;(injection h;contradiction)
   .rw [gu j] at h;exact .inl (.inr (.inl (qC a n p h)))
  .exact .inl (.inr (.inr h))
 refine ⟨⟨λa o e=>?_,λd o e=>g.keep _ _ (r.old d o e),λd i=>?_,λa n u p e=>?_,?_,?_,r.gens,r.os⟩,g.keep|>λk=>⟨λd o e _=>k d o e,λd i=>?_⟩⟩
 .by_cases j:a=m.heap.objs.size
  .subst j;rw [gZ] at e;(injection e with e;subst e)
   exact .list (eX _ rfl) (B.grow g) x
  .rw [gu j] at e;exact (r.objs a o e).grow g
 .rcases t d i with h |rfl
  .exact r.new d h
  .exact D
 .have j:a≠m.heap.objs.size:=λq=>by subst q;rw [gZ] at e;(injection e;contradiction)
  rw [gu j] at e
  refine mT (r.Cv a n u p e) λv A F=>?_
  have w:u≠m.heap.objs.size:=λq=>f.2 a n p (q▸e)
  refine iD (by rw [gu w];exact v) A (λd E z s=>?_)
  by_cases i:d=m.heap.objs.size
  .subst i;rw [gZ] at s;(injection s;contradiction)
  .rw [gu i] at s;exact F d E z s
 .rw [gu (nD C)];exact r.vF
 .exact r.tab.mono (λa o e _=>g.keep a o e) λo e=>g.keep _ o e
 .rcases t d i with h |rfl
  .exact .inl h
  .exact .inr (iq _)
theorem n_ (r:R c b m) (f:h_ c m.heap bf.toList l) (g:l.length<=fG) (h:∀d,b.free d->n (.ref d) (b.set d (.list l))):k_ c b m n (.ref m.heap.objs.size) {m with heap:=m.heap.push (listOf bf a)}:=
 let ⟨e,i⟩:=r.newList (k:=a) f g
 ⟨.ref _,_,.ref _,e,i,h _ r.fresh.1⟩
theorem uE (r:R c b m) (d:h_ c m.heap bf.toList l) (e:l.length<=fG) (h:n (.tup l) b):k_ c b m n (.ref m.heap.objs.size) {m with heap:=m.heap.push (gw "tuple" bf a)}:=
 post_of r (jA _ _) (.tup (eX _ rfl) (by rw [<-eD,d.length];exact e) (d.grow (jA _ _))) h
theorem xk (q:RO c H y (.list l)):∃a k,H.get? y=some (listOf a k)/\h_ c H a.toList l/\l.length<=fG:=by
 cases q with
 |list e r b=>exact mU _ _ e r b
theorem OW {B:Base} {h:vY} {items:Array eJ} {xs:List AV} (r:h_ B h items.toList xs):∀k:Nat,
 h_ B h (UX (λx1 x2=>x1++x2) #[] (gn k items)).toList (gn k xs).flatten:=by
 have key:∀(k:Nat) (acc:Array eJ) (ys:List AV),h_ B h acc.toList ys->h_ B h (UX (λx1 x2=>x1++x2) acc (gn k items)).toList (ys++(gn k xs).flatten):=by
  intro k
  induction k with
  |zero=>intro acc ys q;simpa using q
  |succ k ih=>
   intro acc ys q
   rw [wI,List.foldl_cons,wI,Le,<-eE]
   exact ih _ _ (by rw [oG];exact q.append r)
 intro k
 simpa using key k #[] [] .nil
theorem LO (h:q.natAbs<2 ^ 60\/aB.natAbs<2 ^ 60):IntMulOk q aB:=by
 have a:∀k:Int,k.natAbs<2 ^ 60->Builtin.Int.intBits k<=64:=λk b=>by
  unfold Builtin.Int.intBits
  split
  .exact fA 64
  .have:k.natAbs.log2<60:=(Nat.log2_lt (by rename_i e;simpa using e)).mpr b
   exact a_ this (by decide)
 rcases h with h |h
 .exact .of_left (a _ h)
 .exact .of_right (a _ h)
variable {aW:g0}
theorem OX {e:Array eJ} (r:R c b m) (g:m.heap.get? y=some (gw "tuple" bf a)) (f:m.heap.get? aW=some (gw "tuple" e d)) (q:h_ c m.heap bf.toList l) (p:h_ c m.heap e.toList aN) (j:l.length+aN.length<=fG) (h:n (.tup (l++aN)) b):
 WE c L (binaryOp .Add (.ref y) (.ref aW)) (k_ c b m n) m:=by
 have o:bf.size=l.length:=by rw [<-q.length,eD]
 have k:e.size=aN.length:=by rw [<-p.length,eD]
 have u:bf.size+e.size<=sizeLine:=a_ (by exact ad j o k) ia
 by_cases i:bf.isEmpty=true
 .have t:l=[]:=by
   have:bf.size=0:=by simpa [wK] using i
   exact gW.mp (by exact o.symm.trans this)
  refine WT (ei _ g rfl) (ei _ f rfl) SV Wg Q2 Qi (OD _ _) (AutoSeq1.tuple___add___tuple_tuple_0 y bf a aW e d i) (iD g f ?_)
  exact post_of r (iV _ _) (.tup f (by exact a_ (df _ _) (ad j o k)) (by rw [t];exact p)) h
 .by_cases s:e.isEmpty=true
  .have v:aN=[]:=by
    have:e.size=0:=by simpa [wK] using s
    exact gW.mp (by exact k.symm.trans this)
   refine WT (ei _ g rfl) (ei _ f rfl) SV Wg Q2 Qi (OD _ _) (AutoSeq1.tuple___add___tuple_tuple_1 y bf a aW e d i s) (iD g f ?_)
   exact post_of r (iV _ _) (.tup g (by exact a_ (eh _ _) (ad j o k)) (by rw [v,eT];exact q)) h
  .refine P.add_tuple g f i s ?_ u
   exact uE r (by rw [oG];exact q.append p) (by rw [bh];exact j) h
variable {cG:Operator}
theorem IG (h:TA cG=some .add):cG= .Add:=by rcases cG with ⟨⟩<;>first |rfl |contradiction |(injection h;contradiction)
theorem OY (h:TA cG=some .mul):cG= .Mult:=by rcases cG with ⟨⟩<;>first |rfl |contradiction |(injection h;contradiction)
variable {bN:Sr} {aV:eJ}
theorem LP (d:TA cG=some bN) (r:R c b m) (x:RV c m.heap J i) (w:RV c m.heap aV af) (h:Am b n bN i af):
 WE c L (binaryOp cG J aV) (k_ c b m n) m:=by
 induction h using Am.casesOn with
 |int f h=>
  refine r5 J (gr x) λt=>?_
  refine r5 aV (gr w) λu=>?_
  have g:=post_of (c:=c) r (iV m (m.toks+1)) (.int _ m.toks) h
  clear r h x w;induction cG using Operator.casesOn with
  |Add=>(injection d with d;subst d);(injection f with f;subst f);exact wpAny_add_int g
  |Sub=>(injection d with d;subst d);(injection f with f;subst f);exact sub_int g
  |Mult=>(injection d with d;subst d);refine iP (Ly f) λj s=>?_;clear f;subst s;exact mul_int g (LO j)
  |Mod=>(injection d with d;subst d);refine iP (WB f) λj s=>?_;clear f;subst s;exact mod_int j g
  |BitAnd=>
   (injection d with d;subst d);refine iP (Ly f) λj s=>?_;clear f;subst s
   refine and_int ?_
   unfold Builtin.bitAnd
   rw [decide_eq_true j.1,decide_eq_true j.2]
   exact g
  |FloorDiv=>(injection d with d;subst d);refine iP (WB f) λj s=>?_;clear f;subst s;exact floordiv_int (λe=>j (.inl e)) g (.inl (PyProof.noPylong_small (gH (ya.mp λq=>j (.inr q)) (by decide))))
  |_=>contradiction
 |cat z h=>
  refine g6 J (iG x) λa kl k W D l=>?_
  refine g6 aV (iG w) λI km X f Q y=>?_
  obtain rfl:=IG d
  exact OX r W f l y z h
 | @app a I E Z C S z h=>
  obtain rfl:=gP x
  obtain rfl:=gP w
  obtain rfl:=IG d
  refine jU (xk (r.objs a _ C)) λp k o l D=>?_
  refine jU (xk (r.objs I _ S)) λY X V y Q=>?_
  refine P.add_list o V ?_ (a_ ?_ ia)
  .exact n_ r (by rw [oG];exact l.append y) (by rw [bh];exact z) h
  .rw [<-eD,l.length,<-eD,y.length];exact z
 | @rep a v E C f A h=>
  obtain rfl:=gP x
  refine r5 aV (gr w) λu=>?_
  obtain rfl:=OY d
  refine jU (xk (r.objs a _ C)) λp k o l D=>?_
  have H:p.size=E.length:=by rw [<-l.length,eD]
  have K:=A
  unfold fG at f A
  have G:p.size*v.toNat<=100000:=by rw [H];exact A
  refine wpAny_binaryOp_repeat_ref (T:="list") (U:="int") (by decide) (ei _ o rfl) (λO=>Zb O v u) noFill_list_mul F.fills_int_mul Sm repeat_list F.slot_int_index.lookup
   (vX Sm (Zb m v u) F.entry_int_rmul (F.args_int_rmul_2 _ _) (int___rmul___int_list v u a p k)
    ⟨o,rfl,(ei _ o rfl),vX F.slot_list_mul (ei _ o rfl) F.entry_list_mul (F.args_list_mul_2 _ _)
     (W3 a p k v u (by simp [UG];exact Rd (a_ f (by decide))) (by exact i6.mpr (a_ G (by decide))) (by simp [yY,x9];exact a_ G (by decide))) ⟨o,?_⟩⟩)
  refine n_ r ?_ ?_ h
  .induction M:p.isEmpty using j7 with
   |true=>
    have N:E=[]:=gW.mp (by
     have:p.size=0:=by simpa [wK] using M
     exact H.symm.trans this)
    clear r C f A h x w d o l D H K G M;subst N
    simp only [if_true]
    rw [show (gn v.toNat ([]:List AV)).flatten=[] from by simp]
    exact .nil
   |false=>simpa using OW l v.toNat
  .rw [List.length_flatten,xY,List.sum_replicate_nat,Nat.mul_comm];exact K
variable {bO:Bool}
theorem oZ (h:aw=true↔z) (a:bO=true↔z):aw=bO:=by
 rcases aw with ⟨⟩<;>cases bO<;>simp_all
theorem IH (c:mW a L) (b:Plain i):L.units+min (toPy i).depth (toPy af).depth<cLine:=by
 have:=(iy b).2
 have:=c.Az
 exact um (aI:=6) this (by assumption) rfl
theorem q7 (r:R c b m) (e:b y=some (.list l)) (a:∀x∈l,Plain x):
 (∃d,Y9 m.heap (.ref y) (.list (jZ l)) d)/\xV (jZ l)=true/\qr (jZ l)<=6:=by
 refine jU (xk (r.objs y _ e)) λh k g q f=>?_
 refine kf (xf a q) λd p=>?_
 exact ⟨⟨_,.list g rfl rfl p⟩,wa a⟩
noncomputable def q8 (B:Base):Prop:=∀(n:Nat) (A:ji) (st:AS) (s:eM) (a a':g0) (b:Bool) (Q:eJ->eM->Prop) (kvs lvs:List (AV×AV)),
 mW n A->R B st s->st a=some (.dict kvs)->st a'=some (.dict lvs)->Eqv st (.ref a) (.ref a') b->
 ((∀s',fI s s'->Q (.bool b) s')->WE B A (qS .Eq (.ref a) (.ref a')) Q s)/\((∀s',fI s s'->Q (.bool (!b)) s')->WE B A (qS .NotEq (.ref a) (.ref a')) Q s)
set_option tactic.hygienic true in
theorem II (y:q8 c) (j:mW a L) (r:R c b m) (p:RV c m.heap J i) (l:RV c m.heap aV af) (e:Eqv b i af aw):
 ((∀k,fI m k->aG (.bool aw) k)->WE c L (qS .Eq J aV) aG m)/\((∀k,fI m k->aG (.bool (!aw)) k)->WE c L (qS .NotEq J aV) aG m):=by
 have C:=j.Az
 cases e with
 |bool N d=>
  obtain rfl:=xd p;obtain rfl:=xd l
  refine ⟨λh=>eq_bool (h m (hU _)),λh=>?_⟩
  exact ne_bool (h m (hU _))
 |plain g q aw t=>
  obtain ⟨K,n⟩:=j0 g p
  obtain ⟨M,o⟩:=j0 q l
  have e:mZ (toPy i) (toPy af)=aw:=oZ (xg g q) t
  exact ⟨λh=>compareEq_reads n o (iy g).1 (iy q).1 (IH j g) (e▸h m (hU _)),
   λh=>compareNe_reads n o (iy g).1 (iy q).1 (IH j g) (e▸h m (hU _))⟩
 |list h f x u aw t=>
  rename_i s E
  have:=gP p;subst this
  have:=gP l;subst this
  obtain ⟨⟨K,n⟩,A,I⟩:=q7 r h x
  obtain ⟨⟨M,o⟩,w,O⟩:=q7 r f u
  have e:mZ (.list (jZ s)) (.list (jZ E))=aw:=oZ (show sm _ _=true↔_ from E5 x u) t
  have v:∀z:Nat,L.units+min (Et (.list (jZ s))) z<cLine:=λz=>by
   have:Et (.list (jZ s))=qr (jZ s)+1:=rfl
   exact um C (n1 this (fi I)) rfl
  exact ⟨λh=>compareEq_reads n o A w (v _) (e▸h m (hU _)),λh=>compareNe_reads n o A w (v _) (e▸h m (hU _))⟩
 |Im h D f=>
  have:=gP p;subst this
  have:=gP l;subst this
  exact y a L b m _ _ _ aG _ _ j r h f (.Im h D f)
 |Io h f F H B G=>
  have:=gP p;subst this
  have:=gP l;subst this
  exact y a L b m _ _ _ aG _ _ j r h f (.Io h f F H B G)
theorem R.isList (r:R c b m) (e:b y=some (.list l)):∃a k,m.heap.get? y=some (listOf a k)/\h_ c m.heap a.toList l/\l.length<=fG/\m.heap.IsList y a/\a.size=l.length:=by
 refine jU (xk (r.objs y _ e)) λa k g q d=>?_
 exact qX a k g q d ⟨_,g,rfl,_,rfl⟩ (by rw [<-q.length,eD])
theorem R.oT (r:R c b m) (e:b y=some (.dict aC)):RD c m.heap y aC/\aC.length<=fG:=by
 cases r.objs y _ e with
 |dict d l=>exact ⟨d,l⟩
theorem R.uF (a:gX c) (r:R c b m) (e:b y=some av):(y==z_)=false:=by
 rw [beq_eq_false_iff_ne];intro d;subst d
 obtain ⟨f,h⟩:=a.TM
 have:=r.new z_ (.inl (by rw [e];simp))
 rw [this] at h;contradiction
theorem zb {a:Array h} {c:List v} (b:a.size=c.length):a.isEmpty=c.isEmpty:=by
 induction c using el with
 |nil=>simp at b;simp [b]
 |cons y r=>induction d:a.isEmpty using j7 with
  |false=>rfl
  |true=>
   have:a.size=0:=by simpa [wK] using d
   rw [this] at b;simp at b
theorem tl (r:R c b m) (d:RV c m.heap J i) (h:nQ b i aw) (f:∀o,fI m o->cR aw o):WE c L (EG J) cR m:=by
 induction h using nQ.casesOn with
 |none=>obtain rfl:=qG d;exact truthy_none (f _ (hU _))
 |bool v=>obtain rfl:=xd d;exact ow (f _ (hU _))
 |int j=>
  refine r5 J (gr d) λt=>?_
  refine UN ?_
  rw [show (j !=0)=decide (j≠0) by by_cases e:j=0<;>simp [e]]
  exact f _ (hU _)
 |tup s=>
  refine g6 J (iG d) λa w k e l q=>?_
  refine truthy_tuple (tc _ e rfl _ rfl) (by unfold fG at l;exact JE l) ?_
  rw [zb (c:=s) (by rw [<-q.length,eD])]
  exact f _ (iV _ _)
 |list e=>
  obtain rfl:=gP d
  refine gv (r.isList e) λu k g q l p n=>?_
  refine wpAny_truthy_list p (by unfold fG at l;exact JE (n1 n l)) ?_
  rw [zb n]
  exact f _ (iV _ _)
theorem LQ (b:RV c m.heap J i) (h:i≠.none) (a:∀n,i≠.bi n):plainIs J .none=true/\(J==.none)=false:=by
 induction b using RV.casesOn with
 |none=>exact absurd rfl h
 |bi n=>exact absurd rfl (a n)
 |_=>exact ⟨rfl,rfl⟩
variable {cm:List (Int×eJ)}
theorem oa (e:aC.map (·.1)=cm.map (λp=>.int p.1)):(jb cm q).isSome=true↔AV.int q∈aC.map (·.1):=by
 rw [e]
 simp only [jb,Jv,Lf,decide_eq_true_eq,ck]
 exact ⟨λc=>eS c λp b a=>(ei p b (by rw [a])),λc=>eS c λp b a=>(ei p b (by injection a))⟩
theorem tm {a:List (AV×g0×eJ)} (e:aC.map (·.1)=a.map (·.1)):(Sj a i).isSome=true↔i∈aC.map (·.1):=by
 rw [e]
 simp only [Sj,Jv,Lf,decide_eq_true_eq,ck]
theorem vi (b:mW a L):(tupK c).room L.in1:=by
 have:=b.Az
 show L.in1.units+100<vC
 exact (ul 101 this rfl:)
theorem LR (E:gX c) (z:mW a L) (r:R c b m) (p:RV c m.heap J i) (w:RV c m.heap aV af) (e:Cm b i af aw):
 ((∀v,fI m v->aG (.bool aw) v)->WE c L (qS .In J aV) aG m)/\((∀v,fI m v->aG (.bool (!aw)) v)->WE c L (qS .NotIn J aV) aG m):=by
 have s:=z.Az
 induction e with
 |list f h n aw o=>
  have:=gP w;clear E z w;subst this
  refine mT (q7 r h n) λu F D=>?_;refine kf u λI x=>?_
  refine kf (j0 f p) λK y=>?_
  have e:=oZ (Iz f n) o
  have j:=(iy f).2
  exact ⟨λh=>in_list_reads x y F (iy f).1 (by exact Vw s D rfl) (e▸h m (hU _)),λh=>notIn_list_reads x y F (iy f).1 (by exact Vw s D rfl) (e▸h m (hU _))⟩
 |tup f n aw o=>
  refine g6 aV (iG w) λG M k g l q=>?_
  refine kf (xf n q) λI x=>?_
  refine kf (j0 f p) λK y=>?_
  have e:=oZ (Iz f n) o
  have j:=(iy f).2
  exact ⟨λh=>in_tuple_reads (.tuple g rfl rfl x) y (wa n).1 (iy f).1 (by exact Wo s j rfl) (e▸h m (hU _)),
   λh=>notIn_tuple_reads (.tuple g rfl rfl x) y (wa n).1 (iy f).1 (by exact Wo s j rfl) (e▸h m (hU _))⟩
 |dict h f aw o=>
  have:=gP w;clear s w;subst this
  have A:=r.uF E h
  refine iP (r.oT h) λd l=>?_
  rcases f with ⟨⟨C,rfl⟩,H⟩ |⟨B,N⟩
  .refine gi (d.GQ H) λQ j q e=>?_
   refine r5 J (gr p) λt=>?_
   have e:=oZ (oa e) o
   exact ⟨λh=>wpAny_in_of (pM _ _ C t) A j.dictOf.mapOf (e▸h _ (iV _ _)),λh=>wpAny_notIn_of (pM _ _ C t) A j.dictOf.mapOf (e▸h _ (iV _ _))⟩
  .refine gi (d.VP N) λO j q e=>?_
   refine kf B.1 λP u=>?_;subst u
   refine nc (iG p) λG M k u g l S=>?_;subst u
   have e:=oZ (tm e) o
   exact ⟨λh=>wpAny_in_heap (knd:=tupK c) (vi z) ⟨B,p⟩ A j (e▸h _ (iV _ _)),λh=>wpAny_notIn_heap (knd:=tupK c) (vi z) ⟨B,p⟩ A j (e▸h _ (iV _ _))⟩
noncomputable def VR:Om->Ez
 | .eq=>.Eq | .ne=>.NotEq | .lt=>.Lt | .le=>.LtE | .gt=>.Gt | .ge=>.GtE | .Tq=>.In | .Ck=>.NotIn | .Ss=>.Is | .Tr=>.IsNot
theorem LS (a:Ez):a=VR (zF a):=by rcases a with ⟨⟩<;>rfl
theorem vj (y:gX c) (z:q8 c) (p:mW a L) (r:R c b m) {q:Ez} {P:Bool->Prop} (l:RV c m.heap J i) (k:RV c m.heap aV af) (h:pR b P (zF q) i af):
 WE c L (qS q J aV) (λA n=>∃w,A= .bool w/\fI m n/\P w) m:=by
 rw [LS q]
 generalize zF q=o at h⊢
 induction h with
 |eq e d=>exact (II z p r l k e).1 λn g=>gp _ rfl g d
 |ne e d=>exact (II z p r l k e).2 λn g=>gp _ rfl g d
 |Tq e d=>exact (LR y p r l k e).1 λn g=>gp _ rfl g d
 |Ck e d=>exact (LR y p r l k e).2 λn g=>gp _ rfl g d
 |VJ d=>obtain rfl:=qG l;obtain rfl:=qG k;exact Ve rfl (gp _ rfl (hU _) d)
 |Tu d=>obtain rfl:=qG l;obtain rfl:=qG k;exact R_ rfl (gp _ rfl (hU _) d)
 |XK h v d=>
  obtain rfl:=qG k
  refine iP (LQ l h v) λs x=>?_
  exact Ve s (gp _ rfl (hU _) (x▸d))
 |Tw h v d=>
  obtain rfl:=qG k
  refine iP (LQ l h v) λs x=>?_
  exact R_ s (gp _ rfl (hU _) (by rw [x];exact d))
 | @ord o B j w f d=>
  refine r5 J (gr l) λt=>?_
  refine r5 aV (gr k) λu=>?_
  induction o with
  |lt=>(injection f with f;subst f);exact UO (gp _ rfl (hU _) d)
  |le=>(injection f with f;subst f);exact UP (gp _ rfl (hU _) d)
  |gt=>(injection f with f;subst f);exact UQ (gp _ rfl (hU _) d)
  |ge=>(injection f with f;subst f);exact UR (gp _ rfl (hU _) d)
  |_=>contradiction
noncomputable def pS:AV->Option Int
 | .int i=>some i
 |_=>none
noncomputable def nz (p:Option Int):Nat:=match p with |some i=>i.toNat |none=>0
noncomputable def p4 (p:Option Int) (n:Nat):Nat:=match p with |some i=>i.toNat |none=>n
noncomputable def sa (p:Option Int):Prop:=∀i,p=some i->0<=i
set_option tactic.hygienic true in
theorem AA (h:cut l i af=some aN):(i= .none\/∃a,i= .int a)/\(af= .none\/∃a,af= .int a)/\sa (pS i)/\sa (pS af)/\aN=(l.take (p4 (pS af) l.length)).drop (nz (pS i)):=by
 have b:∀{p:Option Int},p=none->sa p:=λe a q=>by rw [e] at q;contradiction
 have c:∀{a:Int},0<=a->sa (some a):=λh j e=>d5 e▸h
 induction i using AV.casesOn with
 |none=>
  induction af using AV.casesOn with
  |none=>exact ⟨.inl rfl,.inl rfl,b rfl,b rfl,(d5 h).symm.trans (N_ ..).symm⟩
  |int a=>exact iP (Ly h) λz e=>⟨.inl rfl,.inr ⟨_,rfl⟩,b rfl,c z,e.symm⟩
  |_=>contradiction
 |int d=>
  induction af using AV.casesOn with
  |none=>exact iP (Ly h) λz e=>⟨.inr ⟨_,rfl⟩,.inl rfl,c z,b rfl,e.symm.trans (congrArg (v7 d.toNat) (N_ ..).symm)⟩
  |int a=>exact iP (Ly h) λz e=>⟨.inr ⟨_,rfl⟩,.inr ⟨_,rfl⟩,c z.1,c z.2,e.symm⟩
  |_=>contradiction
 |_=>contradiction
theorem Dz (l:List h) (a b:Nat):(l.drop (min a l.length)).take (min b l.length -min a l.length)=(l.take b).drop a:=by
 rw [Cb]
 rcases ur a l.length with d |d
 .rw [j5 d]
  rcases ur b l.length with c |c
  .rw [j5 c]
  .rw [t8 c,ni (gy eA),ni (n1 eA (Nat.sub_le_sub_right c _))]
 .rw [t8 d,GP d,GP (eK _),Q4,Q4]
theorem qO (q:RV c H J i) (b:i= .none\/∃a,i= .int a):Lb J (pS i):=by
 rcases b with rfl |⟨a,rfl⟩
 .obtain rfl:=qG q;exact .none
 .refine r5 J (gr q) λt=>?_;exact .int a t
variable {cS cT:Option Int}
theorem vO (a:Array eJ) (c:sa cS) (b:sa cT):KR a cS cT none=((a.toList.take (p4 cT a.size)).drop (nz cS)).toArray:=by
 have e:uf cS cT none a.size=(((min (nz cS) a.size:Nat):Int),((min (p4 cT a.size) a.size:Nat):Int),1):=by
  simp only [uf,KV,show (1:Int)>0 by decide,if_true]
  congr 1
  .cases cS with
   |none=>simp [nz]
   |some i=>
    have:=c i rfl
    simp only [nz,if_neg (show ¬i<0 by exact oF (c i rfl))];exact Wx this
  .congr 1
   cases cT with
   |none=>simp [p4]
   |some i=>
    have:=b i rfl
    simp only [p4,if_neg (show ¬i<0 by exact oF (b i rfl))];exact Wx this
 unfold KR
 rw [e]
 simp only [sliceRange_one,pick_run]
 rw [<-Dz,eD]
theorem yk {Q:Int×Int×Nat->eM->Prop} (p:m.heap.IsSliceOf y J aV .none) (q:Lb J cS) (s:Lb aV cT) (j:sa cS) (f:sa cT) (h:Q (((min (nz cS) a:Nat):Int),1,min (p4 cT a) a -min (nz cS) a) m):
 WE c L (wR (.ref y) (pure (a:Int))) Q m:=by
 refine gi (id p) λA d w b=>?_
 have g:∀{v:eJ} {r:Option Int} {l:Option Int->eM->Prop},Lb v r->l r m->WE c L (S6 v) l m:=λn h=>by
  induction n with
  |none=>exact Vo h
  |int i t=>exact slicePart_int h
 unfold wR S7
 refine b5 (b5 (ud d b (x:=J) rfl (b5 (ud d b (x:=aV) rfl (b5 (ud d b (x:=.none) rfl (dk ?_)))))))
 refine b5 (Vo ?_)
 show gf _ _ (if ((1:Int)==0)=true then _ else _) _ _ m
 rw [if_neg (by decide)]
 refine b5 (g q (b5 (g s (b5 (dk ?_)))))
 show gf _ _ (match qh cS cT 1 (a:Int) with |(k,o)=>pure (k,(1:Int),nC k o 1)) _ _ m
 have e:qh cS cT 1 (a:Int)=(((min (nz cS) a:Nat):Int),((min (p4 cT a) a:Nat):Int)):=by
  unfold qh
  simp only [show ¬((1:Int)<0) by decide,if_false]
  congr 1
  .cases cS with
   |none=>simp [nz]
   |some i=>
    have:=j i rfl
    simp only [nz,if_neg (show ¬i<0 by exact oF (j i rfl))];exact Vx this
  .cases cT with
   |none=>simp [p4]
   |some i=>
    have:=f i rfl
    simp only [p4,if_neg (show ¬i<0 by exact oF (f i rfl))];exact Vx this
 rw [e]
 have u:nC ((min (nz cS) a:Nat):Int) ((min (p4 cT a) a:Nat):Int) 1=min (p4 cT a) a -min (nz cS) a:=by
  unfold nC
  simp only [show (1:Int)>0 by decide,if_true,pQ]
  by_cases z:((min (p4 cT a) a:Nat):Int)>(min (nz cS) a:Nat)
  .rw [if_pos z];exact Xw
  .rw [if_neg z];exact Xx z
 show gf _ _ (pure (((min (nz cS) a:Nat):Int),(1:Int),nC ((min (nz cS) a:Nat):Int) ((min (p4 cT a) a:Nat):Int) 1)) _ _ m
 rw [u]
 exact dk h
theorem xl (j:m.heap.get? y=some (gw "tuple" bf a)) (i:m.heap.IsSliceOf aW J aV .none) (s:Lb J cS) (v:Lb aV cT) (o:sa cS) (n:sa cT) (t:(bf.toList.take (p4 cT bf.size)).drop (nz cS)=bf.toList->aG (.ref y) m) (h:aG (.ref m.heap.objs.size) {m with heap:=m.heap.push (gw "tuple" ((bf.toList.take (p4 cT bf.size)).drop (nz cS)).toArray 0)}) (q:bf.size<=x9):WE c L (yU (.ref y) (.ref aW)) aG m:=by
 have d:IsTup m.heap y bf:=tc _ j rfl _ rfl
 have r:m.TypeIs (.ref y) "tuple":=ei _ j rfl
 refine gi (id i) λp u l x=>?_
 have w:m.TypeIs (.ref aW) "slice":=ei p u l
 have f:sizeOk (.seq ((bf.toList.take (p4 cT bf.size)).drop (nz cS)).toArray):=by
  show ((bf.toList.take (p4 cT bf.size)).drop (nz cS)).toArray.size<=x9
  rw [j6,eA,fT,eD]
  exact a_ (jS _ _) (a_ (qi _ _) q)
 unfold yU
 try with_reducible refine f7 ?_
 first |refine b5 (dk ?_) |skip
 refine b5 (uc d.typeIs (by decide) ?_)
 refine b5 (pW (name:=i3 "__getitem__") d.typeIs Ac
  (nq Ac d.typeIs entry_tuple_getitem ?_ (args_tuple_getitem _ _)))
 show gf _ _ (wQ (.ref y)>>= _) _ _ m
 refine b5 (tupleItemsOf_ d ?_)
 refine b5 (sr w ?_)
 rw [if_pos (by decide)]
 refine b5 (yk i s v o n ?_)
 have k:((eR (min (p4 cT bf.size) bf.size -min (nz cS) bf.size)).filterMap λ(a:Nat)=>bf[(((min (nz cS) bf.size:Nat):Int)+(a:Int)*1).toNat]?).toArray=((bf.toList.take (p4 cT bf.size)).drop (nz cS)).toArray:=by
  have e:(λ(a:Nat)=>bf[(((min (nz cS) bf.size:Nat):Int)+(a:Int)*1).toNat]?)=λa=>bf[min (nz cS) bf.size+a]? :=by
   funext a
   have:(((min (nz cS) bf.size:Nat):Int)+(a:Int)*1).toNat=min (nz cS) bf.size+a:=by exact Xo
   rw [this]
  rw [e]
  have:=pick_run bf (min (nz cS) bf.size) (min (p4 cT bf.size) bf.size -min (nz cS) bf.size)
  rw [KY] at this
  rw [<-Dz,eD,<-this]
  rfl
 show gf _ _ (if (((min (nz cS) bf.size:Nat):Int)==0&&(1:Int)==1&&(min (p4 cT bf.size) bf.size -min (nz cS) bf.size)==bf.size)=true then _ else _) _ _ m
 by_cases b:(((min (nz cS) bf.size:Nat):Int)==0&&(1:Int)==1&&(min (p4 cT bf.size) bf.size -min (nz cS) bf.size)==bf.size)=true
 .rw [if_pos b]
  simp only [eW,beq_iff_eq] at b
  have g:=t (by rw [<-Dz,eD,b.2,show min (nz cS) bf.size=0 by exact Int.ofNat_eq_zero.mp b.1.1,rJ,ni (by simp)])
  unfold S5
  refine b5 (b5 (sr r (dk ?_)))
  rw [if_pos (by decide)]
  refine b5 (nI ?_)
  first
   |exact dk (ei _ rfl (dk g))
   |exact b5 (dk (dk ⟨_,rfl,dk g⟩))
   |exact b5 (dk ⟨_,rfl,dk g⟩)
 .rw [if_neg b,k]
  first
   |exact b5 (m:=nJ _) (k8 (dk (ei _ rfl (dk h))) f)
   |exact b5 (m:=nJ _) (k8 (b5 (dk (dk ⟨_,rfl,dk h⟩))) f)
   |exact b5 (b5 (m:=nJ _) (k8 (dk (dk ⟨_,rfl,dk h⟩)) f))
   |exact b5 (b5 (m:=nJ _) (k8 (dk ⟨_,rfl,dk h⟩) f))
variable {cU:eJ} {b7:AV}
theorem LU (r:R c b m) (s:RV c m.heap J i) (D:m.heap.IsSliceOf y aV cU .none) (C:RV c m.heap aV af) (B:RV c m.heap cU b7) (h:G' b n i af b7):
 WE c L (yU J (.ref y)) (k_ c b m n) m:=by
 cases h with
 | @tup d E _ _ j h=>
  refine g6 J (iG s) λa N K e l q=>?_
  refine qn (AA j) λt w z x u=>?_;clear s j;subst u
  have f:N.size=d.length:=by rw [<-q.length,eD]
  have v:((d.take (p4 (pS b7) d.length)).drop (nz (pS af))).length<=fG:=by rw [eA,fT];exact a_ (jS _ _) (a_ (qi _ _) (n1 f.symm l))
  refine xl e D (qO C t) (qO B w) z x (λG=>?_) ?_ (a_ l ia)
  .refine post_of r (hU _) (.tup e l ?_) h
   have:=((q.take (p4 (pS b7) d.length)).drop (nz (pS af)))
   rw [f] at G;rwa [G] at this
  .exact uE r (by rw [f];exact (q.take _).drop _) v h
 | @list a d E _ _ e j h=>
  obtain rfl:=gP s
  refine qn (AA j) λt w z x u=>?_;clear j s;subst u
  refine gv (r.isList e) λp K g q l H f=>?_
  have v:((d.take (p4 (pS b7) d.length)).drop (nz (pS af))).length<=fG:=by rw [eA,fT];exact a_ (jS _ _) (a_ (qi _ _) l)
  refine uk H D (qO C t) (qO B w) .none (by simp) ?_ (a_ (by exact n1 f l) ia)
  rw [vO p z x]
  exact n_ r (a:=0) (by rw [f];exact (q.take _).drop _) v h
 | @BQ d E _ _ j h=>
  refine Lr J (LH s) λa p O=>mT O λA M F=>?_
  have e:m.heap.IsList a p:=by refine eS A λo A I=>?_;exact ei o (r.old _ _ A) I
  refine qn (AA j) λt w z x u=>?_;clear s j A;subst u
  have q:h_ c m.heap p.toList (d.map AV.int):=LI M
  have f:p.size=(d.map AV.int).length:=by rw [<-q.length,eD]
  have v:(((d.map AV.int).take (p4 (pS b7) (d.map AV.int).length)).drop (nz (pS af))).length<=fG:=by rw [eA,fT];exact a_ (jS _ _) (a_ (qi _ _) (n1 f.symm F))
  refine uk e D (qO C t) (qO B w) .none (by simp) ?_ (a_ (by exact F) ia)
  rw [vO p z x]
  exact n_ r (a:=0) (by rw [f];exact (q.take _).drop _) v h
theorem BW (a:Array eJ):KR a none none (some (-1))=a.toList.reverse.toArray:=by
 have e:uf none none (some (-1)) a.size=((a.size:Int) -1,-1,-1):=by
  simp [uf]
 unfold KR
 rw [e]
 congr 1
 have f:Zc ((a.size:Int) -1) (-1) (-1)=(eR a.size).map λ(k:Nat)=>(a.size -1 -k:Nat):=by
  unfold Zc
  simp only [show ¬((-1:Int)>0) by decide,if_false]
  by_cases h:(a.size:Int) -1> -1
  .have e:(((a.size:Int) -1 - -1 - -1 -1) / - -1).toNat=a.size:=by simp
   simp only [h,if_true,e]
   apply fo
   intro k b
   have:=eV.mp b
   exact VA this
  .have:a.size=0:=z0 h
   simp [this]
 rw [f,KY]
 apply sy
 intro i
 have d:(vL ((λx=>a[x]?)∘λk=>a.size -1 -k) (eR a.size))=(eR a.size).map λk=>a.toList.getD (a.size -1 -k) .none:=by
  have j:∀l:List Nat,(∀k∈l,k<a.size)->vL ((λx=>a[x]?)∘λk=>a.size -1 -k) l=l.map λk=>a.toList.getD (a.size -1 -k) .none:=by
   intro l
   induction l with
   |nil=>intro _;rfl
   |cons k l g=>
    intro c
    have:=c k (.head _)
    rw [qU,eI,g λz m=>c z (.tail _ m)]
    simp only [oA]
    rw [ec,gG,oB (by exact EH this)]
    rfl
  exact j _ λk b=>eV.mp b
 rw [d,ed]
 by_cases h:i<a.size
 .rw [jy h,List.getElem?_reverse (by simpa using h)]
  simp only [jY,eD]
  rw [ec,gG,oB (by exact EH h)]
  rfl
 .rw [iC (by simpa using h),iC (by simpa using h)]
  rfl
variable {bI:Tok}
theorem LV (r:R c b m) (o:RV c m.heap J i) (d:m.heap.IsSliceOf y .none .none (.int (-1) bI)) (h:OP b n i):
 WE c L (yU J (.ref y)) (k_ c b m n) m:=by
 induction h with
 | @mk a t e h=>
  obtain rfl:=gP o
  refine gv (r.isList e) λp s g q l j f=>?_
  refine uk j d .none .none (.int (-1) bI) (by simp) ?_ (a_ (by exact n1 f l) ia)
  rw [BW]
  exact n_ r (a:=0) (by simpa using q.rev) (by simpa using l) h
theorem Cy (h:itemAt l q=some i) (c:l.length<=fG):-2 ^ 63<=q/\q<2 ^ 63/\∃j,SQ q l.length=some j/\l[j]? =some i/\((0<=q/\j=q.toNat)\/(q<0/\-(l.length:Int)<=q/\j=(q+l.length).toNat)):=by
 unfold fG at c
 unfold itemAt at h
 split at h
 .rename_i a
  have d:=(ey.mp h).1
  refine ⟨(by exact jG (by decide) a),(by exact To d c),q.toNat,?_,h,(.inl ⟨a,rfl⟩)⟩
  unfold SQ
  simp only [if_neg (show ¬q<0 by exact oF a)]
  rw [if_pos (by simp;exact ⟨a,(Int.toNat_lt a).mp d⟩)]
 .rename_i a
  split at h
  .rename_i b
   have d:=(ey.mp h).1
   have e:l.length -q.natAbs=(q+l.length).toNat:=kb a
   refine ⟨(Rd (a_ b (a_ c (by decide)))).1,(by exact zC (Df.mp a) (by decide)),(l.length -q.natAbs),?_,h,(.inr ⟨by exact OJ a,kd a b,e⟩)⟩
   unfold SQ
   simp only [if_pos (show q<0 by exact OJ a)]
   rw [if_pos (by simp;exact kc a b),e]
  .contradiction
theorem o6 (g:h_ c H (cm.map (·.2)) (aC.map (·.2))) (e:aC.map (·.1)=cm.map (λp=>.int p.1)) (b:(aC.map (·.1)).Nodup) (a:(AV.int q,i)∈aC):
 ∃v,jb cm q=some v/\RV c H v i:=by
 induction aC generalizing cm with
 |nil=>exact (eg a).elim
 |cons p ps f=>
  induction cm using el with
  |nil=>clear f b a g;contradiction
  |cons d cm=>
   simp only [eI,iA] at e
   rw [eI,eU] at b
   cases g with
   |cons j k=>
    rcases eL.mp a with rfl |a
    .simp only [AV.int.injEq] at e
     exact ei d.2 (by simp [jb,e.1]) j
    .refine eS (f k e.2 b.2 a) λv l r=>?_
     refine ei v ?_ r
     have h:¬d.1=q:=λm=>b.1 (by rw [e.1,m];exact ck.mpr (ei _ a rfl))
     simpa [jb,qN,h] using l
theorem JM {b:List (AV×g0×eJ)} (q:h_ c H (b.map (·.2.2)) (aC.map (·.2))) (e:aC.map (·.1)=b.map (·.1)) (f:(aC.map (·.1)).Nodup) (d:(i,af)∈aC):
 ∃a v,Sj b i=some (a,v)/\RV c H v af:=by
 induction aC generalizing b with
 |nil=>exact (eg d).elim
 |cons p ps h=>
  induction b using el with
  |nil=>clear h f d q;contradiction
  |cons g b=>
   simp only [eI,iA] at e
   rw [eI,eU] at f
   cases q with
   |cons k l=>
    rcases eL.mp d with rfl |d
    .exact nE g.2.1 g.2.2 (by simp [Sj,<-e.1]) k
    .refine i_ (h l e.2 f.2 d) λa v m r=>?_
     refine nE a v ?_ r
     have j:¬g.1=i:=λn=>f.1 (by rw [e.1,n];exact ck.mpr (ei _ d rfl))
     simpa [Sj,qN,j] using m
theorem LW (O:mW a L) (r:R c b m) (x:RV c m.heap J i) (p:RV c m.heap aV af) (h:zE b n i af):
 WE c L (yU J aV) (k_ c b m n) m:=by
 induction h using zE.casesOn with
 | @tup D H z w h=>
  refine g6 J (iG x) λI S k e l q=>?_
  refine r5 aV (gr p) λt=>?_
  have s:S.size=D.length:=by rw [<-q.length,eD]
  refine Ii (Cy w (by exact n1 s.symm l)) λA E j G y _=>?_
  refine eS (q.get y) λu f o=>?_
  exact P.getItem_tuple e A E (by rw [s];exact G) (by rw [<-gG];exact f) (post_of r (hU _) o h)
 | @list I D H z e w h=>
  obtain rfl:=gP x
  refine r5 aV (gr p) λt=>?_
  refine gv (r.isList e) λX k g q l K s=>?_
  refine Ii (Cy w l) λA E j G y U=>?_
  refine eS (q.get y) λu f o=>?_
  rw [gG] at f
  have N:=post_of r (hU _) o h
  clear O r e w h x p g q l G y o;rcases U with ⟨F,rfl⟩ |⟨F,V,rfl⟩
  .exact wpAny_getItem_list K F E f N
  .exact wpAny_getItem_list_neg K F (by rw [s];exact V) A (by rw [s];exact f) N
 | @dict I kn af i e v Q M=>
  obtain rfl:=gP x
  refine iP (r.oT e) λd l=>?_
  rcases v with ⟨⟨H,rfl⟩,T⟩ |⟨v,W⟩
  .refine gi (d.GQ T) λkl B q e=>?_
   refine r5 aV (gr p) λt=>?_
   refine eS (o6 q e d.nodup Q) λu f o=>?_
   exact wpAny_getItem_of (pM _ _ H t) B.dictOf.mapOf f (post_of r (iV _ _) o M)
  .refine gi (d.VP W) λZ B q e=>?_
   refine kf v.1 λD C=>?_;subst C
   refine nc (iG p) λkm S k C g l q'=>?_;subst C
   refine i_ (JM q e d.nodup Q) λY u f o=>?_
   exact wpAny_getItem_heap (knd:=tupK c) (vi O) ⟨v,p⟩ B f (post_of r (iV _ _) o M)
variable {aq:wL}
variable {aH:gg} {D:CE}
variable {aX:gg} {aL:CE}
section
section
variable {B:Base}
theorem vk (h:xc a0=true) (a:yX) (r:List gg):nr (a0::r) a=(false,vW a0 a)::nr r a:=by
 rcases a0 with ⟨⟩<;>first |rfl |contradiction
theorem DA:LM c a r [] .nil:=λA g m b s Q f e F d h=>W4 ⟨[],b,.nil,d,.refl,rfl,h⟩
theorem xm (G:xc a0=true) (D:SE c a r a0 g) (w:LM c a r az aq):LM c a r (a0::az) (.cons g aq):=λA b m C s Q t e F d h=>
 W5 (f6 (D A b m C s _ e F d h) (λv l x z B f i y=>xh (w A b m z l _ t e (F.step d i) f y) (λH I o k p E j u=>iP u λq n=>⟨x::o,k,.cons (B.step f j) p,E,i.trans j,congrArg rY q,n⟩))) (vk G b az)
theorem OZ (f:aq.len<20) (g:LM c a r az aq):SE c a r (.List az ae) (.lst aq):=λA q m n s Q o F j h=>
 wpAny_List_spliced (xh (g A q m n s _ ae o F j h) (λb w l v e t p u=>iP u λd i=>by
  have:b.length=l.length:=e.length
  refine ⟨by rw [nG];exact n1 (this.trans d) (a_ (eB f) (by decide)),?_⟩
  exact (n_ t (bf:=b.toArray) (a:=0) (by simpa using e) (by unfold fG;exact n1 d (a_ (eB f) (by decide))) i).trans p))
theorem IJ {x1} (f:aq.len<20) (g:LM c a r az aq):SE c a r (.Tuple az x1 ae) (.tup aq):=λA q m n s Q o F j h=>
 wpAny_Tuple_spliced (xh (g A q m n s _ ae o F j h) (λb w l v e t p u=>iP u λd i=>by
  have:b.length=l.length:=e.length
  refine ⟨by rw [nG];exact n1 (this.trans d) (a_ (eB f) (by decide)),?_⟩
  exact (uE t (bf:=b.toArray) (a:=0) (by simpa using e) (by unfold fG;exact n1 d (a_ (eB f) (by decide))) i).trans p))
theorem O0 (u:TA cG=some bN) (E:SE c a r a0 g) (z:SE c a r aH D):SE c a r (.BinOp a0 cG aH ae) (.bin bN g D):=λA f m C s Q d F b h=>
 wpAny_BinOp (f6 (E A f m C s _ d F b h) (λv l x t B i j q=>f6 (z A f m t l _ d (F.step b j) i q) (λw I y H o G k n=>er (LP u G (B.step i k) o n) (λ_ _ p=>(p.trans k).trans j) λ_ _ e=>e)))
theorem IK (j:SE c a r a0 g):SE c a r (.UnaryOp .USub a0 ae) (.neg g):=λA l m f s Q i F e h=>
 Jr (f6 (j A l m f s _ i F e h) (λv p x o d n k b=>by
  induction b with
  |mk b=>
   refine r5 v (gr d) λt=>?_
   exact BD ((post_of n (iV _ _) (.int _ _) b).trans k)))
theorem O1 (o:SE c a r a0 g):SE c a r (.UnaryOp .Not a0 ae) (.not g):=λA q m l s Q n F k h=>
 Jr (f6 (o A q m l s _ n F k h) (λv u x t j e p d=>by
  refine eS d λb i d=>?_
  exact not_of (tl e j i λw f=>(post_of e f (.bool _) d).trans p)))
theorem O2 (u:ST c a r a0 g) (t:SE c a r aH D) (o:SE c a r aX aL):SE c a r (.IfExp a0 aH aX ae) (.ite g D aL):=λA i m q s Q f F d h=>
 wpAny_IfExp (q6 (u A i m q s _ f F d h) (λa0 j n k b l=>by
  induction a0 with
  |true=>exact er (t A i m n j _ f (F.step d b) k l) (λ_ _ p=>p.trans b) λ_ _ e=>e
  |false=>exact er (o A i m n j _ f (F.step d b) k l) (λ_ _ p=>p.trans b) λ_ _ e=>e))
theorem JN {i:Vm} (h:SE c a r a0 g):SE c a r (.BoolOp i [a0] ae) g:=λA j m e s Q f F d b=>BoolOp_one (h A j m e s Q f F d b)
theorem snd_and (o:SE c a r a0 g) (w:SE c a r (.BoolOp .And (aH::az) ae) D):SE c a r (.BoolOp .And (a0::aH::az) ae) (.and g D):=λA k m y s Q j F i h=>
 BoolOp_and (f6 (o A k m y s _ j F i h) (λv z x u l e f d=>by
  refine eS d λt n d=>?_
  refine tl e l n λq b=>?_
  clear o h n;induction t with
  |true=>exact er (w A k m u q _ j (F.step i (f.trans (.grow b))) (e.grow b) d) (λ_ _ p=>p.trans (f.trans (.grow b))) λ_ _ a0=>a0
  |false=>exact (post_of e b (l.grow b) d).trans f))
theorem Rh (o:SE c a r a0 g) (w:SE c a r (.BoolOp .Or (aH::az) ae) D):SE c a r (.BoolOp .Or (a0::aH::az) ae) (.or g D):=λA k m y s Q j F i h=>
 BoolOp_or (f6 (o A k m y s _ j F i h) (λv z x u l e f d=>by
  refine eS d λt n d=>?_
  refine tl e l n λq b=>?_
  clear o h n;induction t with
  |true=>exact (post_of e b (l.grow b) d).trans f
  |false=>exact er (w A k m u q _ j (F.step i (f.trans (.grow b))) (e.grow b) d) (λ_ _ p=>p.trans (f.trans (.grow b))) λ_ _ a0=>a0))
theorem xn (h:xc a0=true) (a:Ez):Jt a a0=false:=by
 rcases a0 with ⟨⟩<;>first |rfl |contradiction
section
variable (HB:gX B) (HD:q8 B)
include HB HD
theorem LX {n:Nat} {ns:gq} {l e:gg} {op:Ez} {a b:CE} {pos:Eu} (ha:SE B n ns l a) (hc:xc e=true) (hb:SE B n ns e b):SE B n ns (.Compare l [op] [e] pos) (.cmp a (zF op) b):=λA env m st s Q hr F r h=>
 wpAny_Compare1 (f6 (ha A env m st s _ hr F r h) (λv s₁ x st₁ qv r₁ y₁ h₁=>f6 (hb A env m st₁ s₁ _ hr (F.step r y₁) r₁ h₁) (λw s₂ y st₂ qw r₂ y₂ h₂=>er (vj HB HD hr r₂ (qv.step r₁ y₂) qw h₂) (λc s₃ zf=>gi zf λb e g hp=>e▸((post_of r₂ g (.bool b) hp).trans y₂).trans y₁) λ_ _ e=>e))) (xn hc op)
theorem LY {n:Nat} {ns:gq} {l e f:gg} {op op':Ez} {a b c:CE} {pos:Eu} (ha:SE B n ns l a) (hc:xc e=true) (hb:SE B n ns e b) (hc':xc f=true) (hf:SE B n ns f c):
 SE B n ns (.Compare l [op,op'] [e,f] pos) (.EV a (zF op) b (zF op') c):=λA env m st s Q hr F r h=>
 Compare_chain (f6 (ha A env m st s _ hr F r h) (λv s₁ x st₁ qv r₁ y₁ h₁=>chain_link (f6 (hb A env m st₁ s₁ _ hr (F.step r y₁) r₁ h₁) (λw s₂ y st₂ qw r₂ y₂ h₂=>er (vj HB HD hr r₂ (qv.step r₁ y₂) qw h₂) (λc s₃ zf=>gi zf λb e g hp=>by
  subst e
  have y₃:=y₁.trans (y₂.trans (ED g))
  refine ow ?_
  induction b with
  |false=>simp only [fY,if_false] at hp⊢;exact ((post_of r₂ g (.bool _) hp).trans y₂).trans y₁
  |true=>
   simp only [if_true] at hp⊢
   refine chain_last (f6 (hf A env m st₂ s₃ _ hr (F.step r y₃) (r₂.grow g) hp) (λu s₄ z st₄ qu r₄ y₄ h₄=>
    er (vj HB HD hr r₄ ((qw.grow g).step (r₂.grow g) y₄) qu h₄) (λc s₅ zf=>gi zf λb e g' hp=>e▸((post_of r₄ g' (.bool b) hp).trans y₄).trans y₃) λ_ _ e=>e))) λ_ _ e=>e)))) (by
  show Jt op' f=false
  exact xn hc' op')
theorem JO {n:Nat} {ns:gq} {l e:gg} {op:Ez} {a b:CE} {pos:Eu} (ha:SE B n ns l a) (hc:xc e=true) (hb:SE B n ns e b):ST B n ns (.Compare l [op] [e] pos) (.cmp a (zF op) b):=λA env m st s Q hr F r h=>
 wpAny_isTrue_Compare1 (f6 (ha A env m st s _ hr F r h) (λv s₁ x st₁ qv r₁ y₁ h₁=>f6 (hb A env m st₁ s₁ _ hr (F.step r y₁) r₁ h₁) (λw s₂ y st₂ qw r₂ y₂ h₂=>er (vj HB HD hr r₂ (qv.step r₁ y₂) qw h₂) (λc s₃ zf=>gi zf λb e g hp=>e▸ow ⟨st₂,r₂.grow g,y₁.trans (y₂.trans (.grow g)),tb hp⟩) λ_ _ e=>e))) (xn hc op)
theorem JP {n:Nat} {ns:gq} {l e f:gg} {op op':Ez} {a b c:CE} {pos:Eu} (ha:SE B n ns l a) (hc:xc e=true) (hb:SE B n ns e b) (hc':xc f=true) (hf:SE B n ns f c):
 ST B n ns (.Compare l [op,op'] [e,f] pos) (.EV a (zF op) b (zF op') c):=λA env m st s Q hr F r h=>
 isTrue_chain (f6 (ha A env m st s _ hr F r h) (λv s₁ x st₁ qv r₁ y₁ h₁=>test_link (f6 (hb A env m st₁ s₁ _ hr (F.step r y₁) r₁ h₁) (λw s₂ y st₂ qw r₂ y₂ h₂=>er (vj HB HD hr r₂ (qv.step r₁ y₂) qw h₂) (λc s₃ zf=>gi zf λb e g hp=>by
  subst e
  have y₃:=y₁.trans (y₂.trans (ED g))
  refine ow ?_
  induction b with
  |false=>simp only [fY,if_false] at hp⊢;exact ⟨st₂,r₂.grow g,y₃,tb hp⟩
  |true=>
   simp only [if_true] at hp⊢
   refine test_last (f6 (hf A env m st₂ s₃ _ hr (F.step r y₃) (r₂.grow g) hp) (λu s₄ z st₄ qu r₄ y₄ h₄=>
    er (vj HB HD hr r₄ ((qw.grow g).step (r₂.grow g) y₄) qu h₄) (λc s₅ zf=>gi zf λb e g' hp=>e▸ow ⟨st₄,r₄.grow g',y₃.trans (y₄.trans (.grow g')),tb hp⟩) λ_ _ e=>e))) λ_ _ e=>e)))) (by
  show Jt op' f=false
  exact xn hc' op')
end
theorem AB (w:SE c a r a0 g) (p:∀(m:MM) (d:AS) (Q:Bool->AS->Prop),VT PG (eF PG a) g (VE PG (eF PG a) g) m d Q=VE PG (eF PG a) g m d λv d=>∃b,nQ d v b/\Q b d) (t:∀f j,Aa a0 f j=(do let v <-j;GD a0.pos;yT [v] (EG v))):ST c a r a0 g:=λA f m d s Q u F q h=>by
 rw [p] at h
 exact isTrue_plain (f6 (w A f m d s _ u F q h) (λv z x l o k y e=>by
  refine eS e λb n e=>?_
  exact tl k o n λB i=>⟨l,k.grow i,y.trans (.grow i),e⟩)) (t _ _)
theorem LZ (k:ST c a r a0 g):ST c a r (.UnaryOp .Not a0 ae) (.not g):=λA l m f s Q i F d h=>
 isTrue_not (er (k A l m f s _ i F d h) (λ_ _ ⟨j,e,n,b⟩=>⟨j,e,n,b⟩) λ_ _ a0=>a0)
theorem L0 (u:ST c a r a0 g) (t:ST c a r aH D) (o:ST c a r aX aL):ST c a r (.IfExp a0 aH aX ae) (.ite g D aL):=λA i m q s Q f F d h=>
 isTrue_IfExp (q6 (u A i m q s _ f F d h) (λa0 j n k b l=>by
  induction a0 with
  |true=>exact er (t A i m n j _ f (F.step d b) k l) (λ_ _ p=>p.trans b) λ_ _ e=>e
  |false=>exact er (o A i m n j _ f (F.step d b) k l) (λ_ _ p=>p.trans b) λ_ _ e=>e))
theorem Hi {j:Vm} (h:ST c a r a0 g):ST c a r (.BoolOp j [a0] ae) g:=λA i m e s Q f F d b=>by
 induction j using BoolOp.casesOn with
 |And=>exact Zv (er (h A i m e s Q f F d b) (λt k p=>by induction t using j7 with
  |true=>exact isTrue_and_nil p
  |false=>exact p) λ_ _ a0=>a0)
 |Or=>exact isTrue_or (er (h A i m e s Q f F d b) (λt k p=>by induction t using j7 with
  |true=>exact p
  |false=>exact isTrue_or_nil p) λ_ _ a0=>a0)
theorem Oq (d:Vm) (a:List gg) (b:Eu) (c:yX) (w e:N5 eJ):Aa (.BoolOp d a b) c w=Aa (.BoolOp d a b) c e:=rfl
theorem L3 (q:ST c a r a0 g) (l:ST c a r (.BoolOp .And (aH::az) ae) D):ST c a r (.BoolOp .And (a0::aH::az) ae) (.and g D):=λA j m o s Q i F f h=>
 Zv (q6 (q A j m o s _ i F f h) (λt n e k b d=>by
  induction t with
  |true=>exact er (l A j m e n _ i (F.step f b) k d) (λ_ _ p=>p.trans b) λ_ _ a0=>a0
  |false=>exact ⟨e,k,b,d⟩))
theorem O3 (q:ST c a r a0 g) (l:ST c a r (.BoolOp .Or (aH::az) ae) D):ST c a r (.BoolOp .Or (a0::aH::az) ae) (.or g D):=λA j m o s Q i F f h=>
 isTrue_or (q6 (q A j m o s _ i F f h) (λt n e k b d=>by
  induction t with
  |true=>exact ⟨e,k,b,d⟩
  |false=>exact er (l A j m e n _ i (F.step f b) k d) (λ_ _ p=>p.trans b) λ_ _ a0=>a0))
end
end
variable {aY:zv}
variable {bP:Qu}
section
section
variable {B:Base}
noncomputable def Place (a p:g0) (o₀ o:AO):Prop:=(p=a/\(∀c dx fs,o₀≠.inst c dx fs)/\∀c dx fs,o≠.inst c dx fs)\/∃c fs fs',o₀= .inst c p fs/\o= .inst c p fs'
theorem R.upd {o:AO} {t:Nat} (r:R c b m) (e:b y=some av) (k:iJ aW m.heap H) (l:Place y aW av o) (n:RO c H y o):
 R c (b.set y o) {m with heap:=H,toks:=t}/\St c b m (b.set y o) {m with heap:=H,toks:=t}:=by
 have p:ik c b aW:=by
  clear r k n;rcases l with ⟨rfl,_⟩ |⟨g,j,C,rfl,rfl⟩
  .exact .inl (by rw [e];simp)
  .exact .inr (.inl (qC y g j e))
 have u:∀a D,b a=some D->a≠y->a≠aW:=by
  intro a D d i O
  clear k n p;rcases l with ⟨rfl,_⟩ |⟨g,j,C,rfl,rfl⟩
  .exact i O
  .clear i;subst O;rw [(r.Cv y g a j e).1] at d;contradiction
 have z:∀a g s j,b a=some (.inst g s j)->a≠y->s≠aW:=by
  intro a g s j d i Q
  clear k n p u;subst Q
  rcases l with ⟨rfl,_⟩ |⟨J,C,L,rfl,rfl⟩
  .rw [(r.Cv a g s j d).1] at e;contradiction
  .exact i ((r.Cv y J s C e).2.2 a g j d)
 have w:∀x D,m.heap.get? x=some D->gc D->H.get? x=some D:=by
  intro x D f T
  rewrite [k.2 x λq=>?_];exact f
  clear e k l n u z;subst q
  refine eS (r.oH p) λU v P=>?_
  rw [f] at v;(injection v with v;subst v);exact P T
 have B:∀a,ik c (b.set y o) a->ik c b a:=by
  clear r k n p u z w;rintro a (h |⟨x,g,j,h⟩ |h)
  .by_cases d:a=y
   .exact .inl (by rw [d,e];simp)
   .rw [gu d] at h;exact .inl h
  .by_cases f:x=y
   .subst f;rw [gZ] at h;(injection h with h;subst h)
    rcases l with ⟨_,_,A⟩ |⟨J,C,L,rfl,E⟩
    .exact absurd rfl (A _ _ _)
    .cases (E);exact .inr (.inl (qC x _ _ e))
   .rw [gu f] at h;exact .inr (.inl (qC x g j h))
  .exact .inr (.inr h)
 have I:aW≠c.tab:=by
  clear k n p u z w B;rcases l with ⟨rfl,_⟩ |⟨g,j,C,rfl,rfl⟩
  .intro q;subst q;rw [r.vF] at e;contradiction
  .exact (r.Cv y g aW j e).2.1
 refine ⟨⟨λa G d=>?_,λa G d=>?_,λa d=>r.new a (B a d),λa g s j d=>?_,?_,?_,r.gens,r.os⟩,⟨λa G d S=>?_,λa d=>.inl (B a d)⟩⟩
 .clear e l p B I;by_cases i:a=y
  .clear r k u z w;subst i;rw [gZ] at d;(injection d with d;subst d);exact n
  .rw [gu i] at d
   exact (r.objs a G d).mono w (λx f=>(k.2 a (u a G d i)).trans f) λg s j q x f=>(k.2 s (z a g s j (q▸d) i)).trans f
 .have:=r.old a G d
  exact (k.2 a λq=>by clear e k l n u z w B I;subst q;rw [r.new a p] at d;contradiction).trans this
 .clear k n p u z w B I;by_cases i:a=y
  .subst i;rw [gZ] at d;(injection d with d;subst d)
   rcases l with ⟨_,_,A⟩ |⟨J,C,L,rfl,E⟩
   .exact absurd rfl (A _ _ _)
   .cases (E)
    refine mT (r.Cv a _ _ _ e) λF v A=>?_
    refine iD (by rw [gu (λq=>by rw [q,e] at F;contradiction)];exact F) v (λx c2 K f=>?_)
    by_cases N:x=a
    .exact N
    .rw [gu N] at f;exact A x c2 K f
  .rw [gu i] at d
   clear i;refine mT (r.Cv a g s j d) λF v A=>?_
   refine iD (by rw [gu (λq=>by rw [q,e] at F;contradiction)];exact F) v (λx c2 K f=>?_)
   clear r d F v;by_cases M:x=y
   .subst M;rw [gZ] at f;(injection f with f;subst f)
    rcases l with ⟨_,_,E⟩ |⟨J,C,L,rfl,E⟩
    .exact absurd rfl (E _ _ _)
    .cases (E);exact A x _ _ e
   .rw [gu M] at f;exact A x c2 K f
 .clear k l n p u z w B I;by_cases i:c.tab=y
  .subst i;rw [r.vF] at e;contradiction
  .rw [gu i];exact r.vF
 .exact r.tab.mono w λo e=>(k.2 _ (nD I)).trans e
 .exact (k.2 a λq=>S (q▸p)).trans d
theorem L4 (r:R c b m) (e:b y=some av) (d:iJ aW m.heap H) (j:Place y aW av bF) (f:RO c H y bF) (g:RV c H J i) (h:n i (b.set y bF)):
 k_ c b m n J {m with heap:=H,toks:=a}:=
 let ⟨y,k⟩:=r.upd (t:=a) e d j f
 ⟨i,_,g,y,k,h⟩
theorem R.nR (r:R c b m) (f:ik c b y) (d:iJ y m.heap H):∀x a,m.heap.get? x=some a->gc a->H.get? x=some a:=λx a g h=>(d.2 x λq=>by
 clear d;subst q
 refine eS (r.oH f) λj e i=>?_
 rw [g] at e;obtain rfl:=d5 e;exact i h).trans g
theorem Hj (h:AT[a]? =some ao) (b:AT[d]? =some ao):a=d:=
 (iX (ey.mp h).1 (by decide+kernel:AT.Nodup)).mp (h.trans b.symm)
theorem AD (a:j9) (t:Tok):qf (.str a t) a=true:=by simp [qf]
theorem yl:qf (.str ao bI) cE=true↔ao=cE:=by simp [qf]
theorem IL {e:pX} (a:e.key.isStr ao=false) (d:e.refKey=false):Q1 ao (e::bG)=Q1 ao bG:=by
 have b:(e::bG).any (·.refKey)=bG.any (·.refKey):=by rw [List.any_cons,d,Q7]
 have c:(e::bG).find? (·.key.isStr ao)=bG.find? (·.key.isStr ao):=by rw [qN,a]
 unfold Q1
 rw [c]
 induction bG.find? (·.key.isStr ao) with
 |some _=>rfl
 |none=>simp only [b]
theorem E7 (q:yj c H bG aT) (h:AT[a]? =some ao) (b:aT.lookup a=some i):∃v,Q1 ao bG=some (some v)/\RV c H v i:=by
 induction q with
 |nil=>contradiction
 | @cons e y v bG aT n t f g l p j=>
  rw [eN] at b
  by_cases d:a=y
  .clear p j;subst d
   rw [beq_self_eq_true] at b;obtain rfl:=d5 b
   rw [h] at f;obtain rfl:=d5 f
   exact ei e.val (by simp [Q1,qN,g,AD]) l
  .rw [beq_false_of_ne d] at b
   refine eS (j b) λw o k=>?_
   refine ei w ?_ k
   have m:qf e.key ao=false:=by
    rw [g,nP];intro z
    exact d (Hj h ((yl.mp z)▸f))
   rw [IL m (by unfold DictEntry.refKey;rw [g])];exact o
theorem Cz (q:yj c H bG aT) (h:AT[a]? =some ao) (b:aT.lookup a=none):Q1 ao bG=some none:=by
 induction q with
 |nil=>rfl
 | @cons e y v bG aT n t g f j m i=>
  rw [eN] at b
  by_cases d:a=y
  .clear h g f j m i;subst d
   rw [beq_self_eq_true] at b;contradiction
  .rw [beq_false_of_ne d] at b
   have l:=i b
   have k:qf e.key ao=false:=by
    rw [f,nP];intro z
    exact d (Hj h ((yl.mp z)▸g))
   rw [IL k (by unfold DictEntry.refKey;rw [f])];exact l
theorem E9 (p:yj c H bG aT) (f:AT[a]? =some ao) (j:RV c H J i):yj c H (WY ao q (.str ao bI) J bG) (iB aT a i):=by
 induction p with
 |nil=>exact .cons ao bI f rfl j .nil
 | @cons e y w bG aT n l b d h m k=>
  unfold WY;rw [vM]
  by_cases g:y=a
  .clear h k;subst g
   rw [f] at b;obtain rfl:=d5 b
   rw [if_pos (by rw [d];exact AD _ _),if_pos rfl]
   exact .cons ao l f d j m
  .have o:¬qf e.key ao=true:=by
    rw [d];intro z
    exact g (Hj b (by rw [yl.mp z];exact f))
   rw [if_neg o,if_neg g]
   exact .cons n l b d h k
theorem BX (a:List (Nat×AV)) (x:Nat) (u:AV):(iB a x u).map (·.1)=if x∈a.map (·.1) then a.map (·.1) else a.map (·.1)++[x]:=by
 induction a with
 |nil=>rfl
 |cons p a d=>
  obtain ⟨y,w⟩:=p
  rw [vM]
  by_cases b:y=x
  .clear d;subst b;simp
  .rw [if_neg b,eI,d]
   have:¬x=y:=λe=>b e.symm
   by_cases c:x∈a.map (·.1)
   .simp [c]
   .rw [if_neg c,if_neg (by simp only [eI,eL,not_or];exact ⟨this,c⟩)];rfl
theorem uG (h:(aT.map (·.1)).Nodup):((iB aT a i).map (·.1)).Nodup:=by
 rw [BX]
 split
 .exact h
 .rename_i d
  rw [eQ]
  exact iD h (by simp) (λg f b c e=>by simp at c;subst c;subst e;exact d f)
theorem L5:∀(n:Nat) (l:List Nat),l.Nodup->(∀x∈l,x<n)->l.length<=n:=by
 intro n
 induction n with
 |zero=>
  intro l _ h
  induction l using el with
  |nil=>exact eK _
  |cons x l=>exact absurd (h x (.head _)) (pd _)
 |succ n c=>
  intro l b h
  by_cases d:n∈l
  .have:=c (l.erase n) (b.erase n) λx a=>nu (eY (h x (List.mem_of_mem_erase a))) ((b.mem_erase_iff).mp a).1
   rw [List.length_erase_of_mem d] at this
   exact Nat.le_add_of_sub_le this
  .exact pP (c l b λx a=>nu (eY (h x a)) λe=>d (e▸a))
theorem L6 (q:yj c H bG aT) (a:(aT.map (·.1)).Nodup):bG.length=aT.length/\aT.length<=62:=by
 constructor
 .induction q with
  |nil=>rfl
  |cons _ _ _ _ _ _ d=>rw [eI,eU] at a;simp [d a.2]
 .rw [<-bb (f:=(·.1)) (as:=aT)]
  refine L5 62 _ a λx b=>?_
  clear a
  induction q with
  |nil=>contradiction
  |cons n t e _ _ _ d=>
   rcases eL.mp b with rfl |b
   .exact (ey.mp e).1
   .exact d b
theorem JQ (q:RV c H J i):handedIn J=true:=by
 induction q using RV.casesOn with
 |bi n=>
  rcases n with _ |_ |_ |_ |_ |_ |_ |_ |_ |_ |n<;>first |rfl |decide+a
 |_=>rfl
theorem DB (l:S2 aY y=true) (j:ta aY (.ref y) ao=some (some J)) (d:SY aY J "__get__"=some (some aV)) (g:WV aY J=some false) (i:Zh ao cj=some (some cU)):
 findObj aY y (some cj) ao=some (.value cU):=by
 refine eS (any_some l) λn m e=>?_
 have a:∀{b c:Type} {o:Option b} {f:b->Option c} {J:b} {r:Option c},o=some J->f J=r->o.bind f=r:=λh k=>h▸k
 exact a m (a j (a d (a g (a ((if_pos e).trans i) rfl))))
theorem IC.own (K:IC c a bP) (b:AT[d]? =some ao) (e:Zh ao cj=some (some J)):findObj c.K (c.ca a) (some cj) ao=some (.value J):=by
 induction h:bP.meths.lookup d with
 |none=>exact findObj_own K.dict (K.name d ao b h) rfl e
 |some f=>
  refine wY (K.TL d ao f b h) λi m j k=>?_;refine kf j λg l=>?_
  exact DB K.dict i l k e
theorem DC (q:RO c H y (.inst a d aT)):∃b k,H.get? y=some (uh (c.ca a) d)/\H.get? d=some (rB b k)/\yj c H b aT/\(aT.map (·.1)).Nodup/\a<10:=by
 cases q with
 |inst e g q f l=>exact qX _ _ e g q f l
section
variable (HB:gX B)
include HB
theorem gX.Hk {st:AS} {s:eM} (r:R B st s):B.K.In s.heap:=λa o e=>r.old a o (HB.WL a o e)
theorem E_ {st:AS} {s:eM} {A:ji} (r:R B st s) {a c dx x:Nat} {fs:List (Nat×AV)} {nm:j9} {u:AV} {ex:Bool} {Q:AV->AS->Prop} (e:st a=some (.inst c dx fs)) (hx:AT[x]? =some nm) (hl:fs.lookup x=some u) (h:Q u st):
 WE B A (getAttr (.ref a) nm ex) (k_ B st s Q) s:=by
 refine gv (DC (r.objs a _ e)) λes k e1 e2 q nd hc=>?_
 refine eS (HB.cls c hc) λC _ K=>?_
 refine eS (E7 q hx hl) λv hv qv=>?_
 exact get_value (HB.Hk r) (od:=some (rB es k)) ⟨e1,rfl,rfl,e2⟩ K.get (K.own hx hv) (JQ qv) (post_of r (iV _ _) (qv.grow (iV _ _)) h)
noncomputable def xo (e:gg):Prop:=∀nm env whole,Wk e nm env whole=whole
omit HB in
theorem DD {x:j9} {p q:Eu} (h:x≠Hb):xo (.Call (.Name x p) [] [] q):=λnm env whole=>by
 have h2:(x !=("super":j9))=true:=by
  rw [bne_iff_ne];intro q;exact h (q.trans (by unfold Hb;exact (by decide+kernel:("super":j9)=(⟨⟨[115,117,112,101,114]⟩⟩:j9))))
 unfold Wk
 dsimp only
 rw [h2];rfl
theorem L7 {n:Nat} {ns:gq} {e:gg} {a:CE} {x:Nat} {nm:j9} {pos:Eu} (hb:xo e) (hx:AT[x]? =some nm) (he:SE B n ns e a):SE B n ns (.Attribute e nm pos) (.attr a x):=λA env m st s Q hr F r h=>by
 refine Attribute_any_ (f6 (he A env m st s _ hr F r h) (λv s₁ y st₁ qv r₁ y₁ h₁=>?_)) (by rw [arm_eval_Attribute,hb])
 induction h₁ with
 |mk e1 hu h₁=>
  obtain rfl:=gP qv
  exact er (E_ HB r₁ e1 hx hu h₁) (λ_ _ p=>p.trans y₁) λ_ _ e=>e
end
end
end
variable {bo:GH} {bp:Y6} {bJ:Result->eM->Prop} {cV:g0}
set_option tactic.hygienic true in
theorem JR (X:aY.In m.heap) (I:InstAt m.heap aW cj y (some (rB bG a))) (f:cj.dict=some cV) (g:S1 aY y=true) (k:WW aY y ao=some none) (i:(clsIn aY y).any (·.hasDict)=true) (e:(Q1 ao bG).isSome=true) (t:(WY ao (pF bp.params ao) (.str ao m.toks) J bG).length<=1000) (h:∀d,iJ cV m.heap d->d.get? cV=some (rB (WY ao (pF bp.params ao) (.str ao m.toks) J bG) (putN ao bG a))->bJ (.ok (.ret .none)) {m with heap:=d,toks:=m.toks+1}):
 sv (hX bo bp) L (.call (.builtin "object.__setattr__") ⟨[.ref aW,.str ao bI,J],[]⟩) bJ m:=by
 refine osa_open X I g k λb=>?_
 obtain ⟨x,s,o⟩:=any_some i
 obtain ⟨r,l,q,D⟩:=I
 clear g k i q;obtain ⟨u,A,v,w⟩:=cj
 dsimp only at l f
 subst l f
 dsimp only at D
 have j:(m.heap.update cV (Obj.putName ao (pF bp.params ao) (.str ao m.toks) J)).get? cV=some (rB (WY ao (pF bp.params ao) (.str ao m.toks) J bG) (putN ao bG a)):=by
  rw [<-WX]
  exact nH _ D (by rw [WX];rfl)
 refine b5 (dk (b5 (b5 (Vd r (b5 ((looks_clsIn X s).here ?_))))))
 rw [o]
 refine dk (a:=some cV) (b5 (dk (b5 ?_)))
 unfold nsSet
 refine b5 (b5 (SN (dk (b5 (wpAny_mkText (b5 (Vd D ?_)))))))
 have c:(!bG.toArray.any (·.key.isStr ao)&&bG.toArray.any (·.refKey))=false:=by
  rw [<-Lj,<-Lj]
  unfold Q1 at e
  dsimp only
  split at e
  .rename_i p n
   rw [oz.mpr (ei p (so n) (BF n))];rfl
  .split at e
   .contradiction
   .rename_i z;rw [mP] at z;rw [z,Qp]
 dsimp only
 rw [aRefKeyMayBeTheName_at,c]
 refine wpAny_updatePart D ?_
 refine b5 (wpAny_lookBehind j (pastItsLine_dict (by rw [j6,nG];exact a_ t (by decide))) ?_)
 exact dk (h _ (gM ..) j)
variable {bq:Unit->eM->Prop}
theorem uH (j:gX c) (r:R c b m) (e:b a=some (.inst d o aT)) (g:AT[I]? =some ao) (z:RV c m.heap J i) (h:∀p,R c (b.set a (.inst d o (iB aT I i))) p->St c b m (b.set a (.inst d o (iB aT I i))) p->bq () p):
 WE c L (setAttr (.ref a) ao J) bq m:=by
 refine gv (DC (r.objs a _ e)) λl k v B q A D=>?_
 refine eS (j.cls d D) λC _ K=>?_
 have n:InstAt m.heap a (uh (c.ca d) o) (c.ca d) (some (rB l k)):=⟨v,rfl,rfl,B⟩
 have f:(Q1 ao l).isSome=true:=by
  induction f:aT.lookup I with
  |some i=>refine eS (E7 q g f) λw H _=>?_;rw [H];rfl
  |none=>rw [Cz q g f];rfl
 have x:(WY ao (pF c.w.params ao) (.str ao (m.toks+1)) J l).length<=1000:=by
  have:=L6 (E9 (q:=pF c.w.params ao) (bI:=m.toks+1) q g z) (uG A)
  exact n1 this.1 (a_ this.2 (by decide))
 refine set_plain (j.Hk r) n K.set (JR (m:={m with toks:=m.toks+1}) (j.Hk (r.grow (iV m (m.toks+1)))) n rfl K.plain (K.TK I ao g) K.dict f x λN u G=>?_)
 have y:=r.nR (.inr (.inl (qC a d aT e))) u
 have F:a≠o:=λq=>by clear j B K n f x;subst q;rw [(r.Cv a d a aT e).1] at e;contradiction
 refine iP (r.upd (t:=m.toks+1+1) e u (.inr ⟨d,aT,(iB aT I i),rfl,rfl⟩) (.inst ((u.2 a F).trans v) G (E9 (q.mono y) g (z.mono y)) (uG A) D)) λM E=>?_
 exact h _ M E
theorem JS {k:eJ->N5 eJ} (a:∀d,gf (hX c.prog c.w) L (operate d (yU J aV)) (λr m=>gf (hX c.prog c.w) L (k r) aG cF m) cF m) (b:gg):gf (hX c.prog c.w) L (subscripted b false J aV>>= k) aG cF m:=by
 induction b using ui with
 |Slice l u m p=>induction m using d_ with |_=>exact b5 (a _)
 |_=>exact b5 (a _)
theorem sd (h:gf (hX c.prog c.w) L (vW a0 aa) (λo g=>gf (hX c.prog c.w) L (vW aH aa) (λi a=>(∃T f,sY (.type T) "__getitem__"=pure (some (.builtin f))/\a.TypeIs o T)/\gf (hX c.prog c.w) L (yU o i) cF aG a) aG g) aG m):
 gf (hX c.prog c.w) L (vW (.Subscript a0 aH ae) aa) cF aG m:=by
 rw [eval_Subscript]
 refine b5 (er h (λo g d=>b5 (f7 (er d (λi a k=>b5 (mR ?_)) λ_ _ x=>x)))
  λ_ _ x=>x)
 clear h d;refine iP k λs e=>?_;refine i_ s λT f l b=>?_
 refine b5 ?_
 rw [getitemInPython_of_ne b.not_modules]
 refine b5 (rU b l ?_)
 have q:∀j,gf (hX c.prog c.w) L (operate j (yU o i)) (λr n=>gf (hX c.prog c.w) L (letTemporaryGo a0 o r>>= λ_=>pure r) cF aG n) aG a:=λj=>
  wpAny_operating (er e (λr n p=>b5 (wpAny_letTemporaryGo (dk p))) λ_ _ x=>x)
 refine dk ?_
 clear e k l b
 exact JS q aH
theorem ym (r:R c b m) (f:RV c m.heap J (.ref a)) (e:b a=some (.list l)):∃T h,sY (.type T) "__getitem__"=pure (some (.builtin h))/\m.TypeIs J T:=by
 obtain rfl:=gP f
 refine gv (r.isList e) λj k g q i d n=>?_
 exact nE _ _ Sg.lookup d.typeIs
theorem Fb (b:RV c m.heap J (.tup l)):∃T d,sY (.type T) "__getitem__"=pure (some (.builtin d))/\m.TypeIs J T:=by
 refine g6 J (iG b) λa g k e f q=>?_;exact ⟨_,_,Ac.lookup,_,e,rfl⟩
theorem JT (r:R c b m) (a:RV c m.heap J i) (h:zE b n i af):∃T f,sY (.type T) "__getitem__"=pure (some (.builtin f))/\m.TypeIs J T:=by
 induction h with
 |tup=>exact Fb a
 |list e=>exact ym r a e
 |dict e=>
  obtain rfl:=gP a
  refine wZ (r.oT e).1.obj λo j k d g _=>?_
  exact ⟨_,_,slot_dict_getitem.lookup,o,d,g.1⟩
theorem JU (r:R c b m) (d:RV c m.heap J i) (h:G' b n i af b7):∃T k,sY (.type T) "__getitem__"=pure (some (.builtin k))/\m.TypeIs J T:=by
 induction h with
 |tup=>exact Fb d
 |list e=>exact ym r d e
 |BQ=>
  refine Lr J (LH d) λa f p=>mT p λj b7 q=>?_;refine eS j λo l g=>?_
  have e:m.heap.IsList a f:=ei o (r.old _ _ l) g
  exact nE _ _ Sg.lookup e.typeIs
theorem JV (r:R c b m) (a:RV c m.heap J i) (h:OP b n i):∃T d,sY (.type T) "__getitem__"=pure (some (.builtin d))/\m.TypeIs J T:=by
 induction h with
 |mk e=>exact ym r a e
theorem IM (C:SE c a r a0 g) (z:SE c a r aH D):SE c a r (.Subscript a0 aH ae) (.sub g D):=λA j m B s Q b F f h=>
 sd (f6 (C A j m B s _ b F f h) (λv o x u k d l t=>f6 (z A j m u o _ b (F.step f l) d t) (λw G y E q n e i=>⟨JT n (k.step d e) i,er (LW b n (k.step d e) q i) (λ_ _ p=>(p.trans e).trans l) λ_ _ a0=>a0⟩)))
noncomputable def SO (B:Base) (n:Nat) (ns:gq) (o:Option gg) (c:CE):Prop:=∀(A:ji) (env:yX) (m:MM) (st:AS) (s:eM) (Q:AV->AS->Prop),
 mW n A->FR B env ns m st s->R B st s->VE PG (eF PG n) c m st Q->WE B A (evalPart o env) (k_ B st s Q) s
theorem Fd:SO c a r none (.cst .none):=λA f m d s Q e F b h=>dk (post_of b (hU _) .none h)
theorem Fe (h:SE c a r a0 g):SO c a r (some a0) g:=λA i m e s Q f F d b=>h A i m e s Q f F d b
variable {b9:Eu}
theorem O4 {l u:Option gg} (O:SE c a r a0 g) (L:SO c a r l D) (R:SO c a r u aL):SE c a r (.Subscript a0 (.Slice l u none ae) b9) (.t_ g D aL):=λA i m N s Q f F d h=>
 sd (f6 (O A i m N s _ f F d h) (λv C x K M q j J=>Oz (f6 (L A i m K C _ f (F.step d j) q J) (λw P y B I k n E=>f6 (R A i m B P _ f (F.step d (j.trans n)) k E) (λu G z S H o e t=>by
  rw [Js]
  refine dk ?_
  have b:=jA G {cls:=.type "slice",data:=.fields #[w,u,.none]}
  have p:=((M.step q n).step k e).grow b
  exact ⟨JU (o.grow b) p t,er (LU (o.grow b) p (tL ..) ((I.step k e).grow b) (H.grow b) t) (λ_ _ ae=>(((ae.trans (ED b)).trans e).trans n).trans j) λ_ _ a0=>a0⟩)))))
variable {cH cW:Eu}
theorem O5 (p:SE c a r a0 g):SE c a r (.Subscript a0 (.Slice none none (some (.UnaryOp .USub (.Constant (.int 1) d ae) b9)) cH) cW) (.rev g):=λA n m o s Q l F k h=>
 sd (f6 (p A n m o s _ l F k h) (λv b x t j f q i=>Oz (by
  rw [Js]
  refine dk (dk ?_)
  rw [evalPart_some]
  refine Jr (QW (BD ?_))
  have e:=(iV b (b.toks+1+1)).trans (jA {b with toks:=b.toks+1+1} {cls:=.type "slice",data:=.fields #[.none,.none,.int (-1) (b.toks+1)]})
  exact ⟨JV (f.grow e) (j.grow e) i,er (LV (f.grow e) (j.grow e) (tL ..) i) (λ_ _ ae=>(ae.trans (ED e)).trans q) λ_ _ a0=>a0⟩)))
theorem uI:∀{c:List gg},Ao c=true->∀(b:yX) (a:Eu),(s_ a (nr c b)).any (·.1)=false:=by
 intro f
 induction f with
 |nil=>
  intro _ _ _
  exact rfl
 |cons e r d=>
  intro h b a
  have h:=(eW _ _).mp h
  rw [vk h.1]
  show (false||(s_ a (nr r b)).any (·.1))=false
  rw [d h.2];rfl
theorem yn {M:Model} {Q:Args->eM->Prop} (c:Ao az=true) (h:gf M L (Sf (s_ ae (nr az aa))) (λa b=>Q ⟨a,[]⟩ b) aG m):gf M L (evalArgs J true (s_ ae (nr az aa)) []) Q aG m:=by
 induction az using el with
 |nil=>
  unfold evalArgs
  show gf M L (Sf []>>= _) Q aG m
  have h:gf M L (Sf []) (λa b=>Q ⟨a,[]⟩ b) aG m:=h
  refine b5 (er h (λa b d=>?_) λ_ _ x=>x)
  refine b5 (dk ?_)
  refine f7 ?_
  refine b5 (dk (b5 (dk (dk ?_))))
  exact d
 |cons e r=>
  have c:=(eW _ _).mp c
  rw [vk c.1] at h⊢
  exact evalArgs_plain h
theorem Ff (d:gX c) (e:eF PG a i l b n) (q:RV c H J i) {M:Model} (X:c.K.In b8):
 ∃k,(k=Ew\/k=BA\/k=xW)/\Looks M b8 (Vh J) k:=by
 induction a using ja with
 |zero=>exact e.elim
 |succ a=>
  induction i using AV.casesOn with
  |fn k=>
   obtain rfl:=Qx q
   have:k<82:=by
    refine Rb e λ_ F m f _=>?_
    rw [<-d.TN];exact (ey.mp f).1
   exact keeps_K (d.ID k this) b8 X
  |cls g=>
   obtain rfl:=LG q
   have:g<10:=by
    refine eS e λF f _=>?_
    rw [<-d.LL];exact (ey.mp f).1
   exact keeps_K (d.IE g this) b8 X
  |bi h=>
   clear d X e;obtain rfl:=Qy q
   refine ei .machine (.inr (.inl rfl)) ?_
   clear q;rcases h with _ |_ |_ |_ |_ |_ |_ |_ |_ |_ |h<;>exact nB rfl
  |_=>exact e.elim
theorem sE (j:Ao az=true) (u:LM c a r az aq) (q:mW a L) (F:FR c aa r e b m) (o:R c b m) (h:Ir PG (eF PG a) aq e b bH) (p:∀g f i d,h_ c d.heap i g->R c f d->St c b m f d->bH g f->(∃k,(k=Ew\/k=BA\/k=xW)/\Looks (hX c.prog c.w) d.heap (Vh J) k)/\WE c L (nF J (aj++i) []) aG d):
 WE c L (BL ae J aj (s_ ae (nr az aa)) []) aG m:=
 Y8 (P:=λh=>∃k,(k=Ew\/k=BA\/k=xW)/\Looks (hX c.prog c.w) h (Vh J) k) (by rw [uI j];rfl) (λ_ h=>h)
  (yn j (xh (u L aa e b m bH ae q F o h) (λi d g f s v l t=>iP t λ_ n=>p g f i d s v l n)))
theorem Fg (i:gX c) (v:qp c a) (z:∀o C p,a0≠.Attribute o C p) (y:Ao az=true) (q:SE c a r a0 g) (n:LM c a r az aq):SE c a r (.Call a0 az [] ae) (.call g aq):=λA b m K s Q d F f h=>by
 have L:vW (.Call a0 az [] ae) b=(do BL ae (<-vW a0 b) [] (s_ ae (nr az b)) (Vj ae (OA [] b))):=by
  clear i v y q n d F f h;rcases a0 with ⟨⟩<;>first |rfl |exact absurd rfl (z _ _ _)
 rw [L]
 refine b5 (f6 (q A b m K s _ d F f h) (λE M x N u l w I=>?_))
 exact sE y n d (F.step f w) l I λB H J G D t j k=>⟨Ff i k u (i.Hk t),er (v x B H Q A E J G k d t (u.step l j) D) (λ_ _ p=>(p.trans j).trans w) λ_ _ e=>e⟩
theorem Hl (j:xo a0) (k:ae.endLine=b9.line) (r:Ao az=true) (p:az.length<20) (h:gf (hX c.prog c.w) L (vW a0 aa) (λd b=>∀q,gf (hX c.prog c.w) L (SW d ao q) (λa f=>gf (hX c.prog c.w) L (BL b9 a.1 a.2 (s_ b9 (nr az aa)) []) cF aG f) aG b) aG m):
 gf (hX c.prog c.w) L (vW (.Call (.Attribute a0 ao ae) az [] b9) aa) cF aG m:=by
 rw [arm_eval_Call,j]
 refine b5 (er h (λd b l=>b5 (mR ?_)) λ_ _ e=>e)
 have o:Vg (az.length+([]:List W0).length) (s_ b9 (nr az aa)) (Vj b9 (OA [] aa))=true:=by
  unfold Vg
  have g:=uI r aa b9
  have n:(s_ b9 (nr az aa)).all (!·.1)=true:=by
   rw [EK];simp only [Bool.not_not];rw [g];rfl
  rw [n]
  show (true&&true&&decide (az.length+0+0<30))=true
  simp only [Bool.true_and,decide_eq_true_eq];exact gH p (by decide)
 have s:Wi true a0 aa ae b9=pure b9:=by unfold Wi;simp [k]
 unfold methodCall
 rw [o]
 refine b5 (f7 (er (l _) (λa f i=>?_) λ_ _ e=>e))
 exact b5 (Y0 s i)
noncomputable def Qz (B:Base) (n:Nat):Prop:=∀(ns:gq) (A:ji) (env:yX) (m:MM) (st:AS) (s:eM) (Q:AV->AS->Prop) (es:List gg) (cs:wL) (pos:Eu) (a:g0) (xs:List AV) (x:Nat) (nm:j9) (pl:N5 Bool),AT[x]? =some nm->st a=some (.list xs)->x=0\/x=3->
 Ao es=true->LM B n ns es cs->mW n A->FR B env ns m st s->R B st s->Ir PG (eF PG n) cs m st (λvs st=>∃xs,st a=some (.list xs)/\y8 a xs st Q x vs)->
 WE B A (SW (.ref a) nm pl) (λfx s₂=>WE B A (BL pos fx.1 fx.2 (s_ pos (nr es env)) []) (k_ B st s Q) s₂) s
noncomputable def QA (B:Base) (n:Nat):Prop:=∀(ns:gq) (A:ji) (env:yX) (m:MM) (st:AS) (s:eM) (Q:AV->AS->Prop) (es:List gg) (cs:wL) (pos:Eu) (a:g0) (kvs:List (AV×AV)) (x:Nat) (nm:j9) (pl:N5 Bool),AT[x]? =some nm->st a=some (.dict kvs)->x=1\/x=2->
 Ao es=true->LM B n ns es cs->mW n A->FR B env ns m st s->R B st s->Ir PG (eF PG n) cs m st (λvs st=>∃kvs,st a=some (.dict kvs)/\y9 a kvs st Q x vs)->
 WE B A (SW (.ref a) nm pl) (λfx s₂=>WE B A (BL pos fx.1 fx.2 (s_ pos (nr es env)) []) (k_ B st s Q) s₂) s
theorem JW (t:gX c) (X:qp c a) (HL:Qz c a) (S:QA c a) (kl:xo a0) (hl:ae.endLine=b9.line) (u:AT[d]? =some ao) (U:az.length<20) (w:Ao az=true) (ho:SE c a r a0 g) (G:LM c a r az aq):SE c a r (.Call (.Attribute a0 ao ae) az [] b9) (.fO g d aq):=λA z m st s Q l F v h=>by
 refine Hl kl hl w U (er (ho A z m st s _ l F v h) (λov O ⟨y,J,B,n,j,i⟩ L=>?_) λ_ _ e=>e)
 induction i using yf.casesOn with
 | @inst b cc dx f fs C o ku R hf i=>
  obtain rfl:=gP B
  refine gv (DC (n.objs b _ o)) λH k g1 g2 q nd kn=>?_
  refine eS (t.cls cc kn) λC' M K=>?_
  rw [R] at M;obtain rfl:=d5 M
  refine mT (K.TL d ao f u hf) λm1 T _=>?_
  refine method_fn (t.Hk n) (od:=some (rB H k)) ⟨g1,rfl,rfl,g2⟩ K.get K.Ha m1 (beq_iff_eq.mp T) (by show (Zh ao (rB H k)).map _=_;rw [lookIn_dict,Cz q u ku];rfl) ?_
  exact sE w G l (F.step v j) n i λx km V P qs I Z N=>⟨Ff t N (.fn f:RV c P.heap _ _) (t.Hk I),
   er (X (.fn f) (.ref b::x) km Q A (.ref (c.fa f)) (.ref b::V) P N l I (.fn f) (.cons (.ref b) qs)) (λ_ _ p=>(p.trans Z).trans j) λ_ _ e=>e⟩
 | @list b x o E i=>
  obtain rfl:=gP B
  exact er (HL r A z m J O Q az aq b9 b x d ao L u o E w G l (F.step v j) n i) (λfx Y D=>er D (λ_ _ p=>p.trans j) λ_ _ e=>e) λ_ _ e=>e
 | @dict b kq o E i=>
  obtain rfl:=gP B
  exact er (S r A z m J O Q az aq b9 b kq d ao L u o E w G l (F.step v j) n i) (λfx Y D=>er D (λ_ _ p=>p.trans j) λ_ _ e=>e) λ_ _ e=>e
theorem h_.dropLast (r:h_ c H aj l):h_ c H aj.dropLast l.dropLast:=by
 rw [G4,G4,r.length];exact r.take _
theorem h_.getLast (r:h_ c H aj l) (e:l.getLast? =some i):∃v,aj[aj.length -1]? =some v/\RV c H v i:=by
 rw [List.getLast?_eq_getElem?] at e
 rw [r.length];exact r.get e
theorem h_.one (r:h_ c H aj [i]):∃v,aj=[v]/\RV c H v i:=by
 cases r with |cons a r=>cases r;exact ei _ rfl a
theorem h_.two (r:h_ c H aj [i,af]):∃v w,aj=[v,w]/\RV c H v i/\RV c H w af:=by
 cases r with | @cons _ _ b _ a r=>refine jo b r.one λw q=>?_;exact mU _ _ rfl a q
theorem h_.three (r:h_ c H aj [i,af,b7]):∃v w u,aj=[v,w,u]/\RV c H v i/\RV c H w af/\RV c H u b7:=by
 cases r with |cons a r=>refine jU r.two λw u b q d=>?_;clear r;subst b;exact sA _ _ _ rfl a q d
theorem h_.zero (r:h_ c H aj []):aj=[]:=by cases r;rfl
theorem R.zV (r:R c b m) {ys:List AV} {t:Nat} {f:Array eJ->Array eJ} (e:b y=some (.list l)) (g:m.heap.get? y=some (listOf bf a)) (q:h_ c m.heap (f bf).toList ys) (k:ys.length<=fG):
 R c (b.set y (.list ys)) {m with heap:=m.heap.update y (fL f),toks:=t}/\St c b m (b.set y (.list ys)) {m with heap:=m.heap.update y (fL f),toks:=t}:=by
 have h:iJ y m.heap (m.heap.update y (fL f)):=gM ..
 obtain ⟨d,i⟩:∃d,(listOf bf a).mapSeq f=listOf (f bf) d:=⟨_,rfl⟩
 have j:(m.heap.update y (fL f)).get? y=some (listOf (f bf) d):=by
  rw [<-i];exact nH _ g (by rw [i];rfl)
 exact r.upd e h (.inl ⟨rfl,(by (repeat intro _);contradiction),(by (repeat intro _);contradiction)⟩) (.list j (q.mono (r.nR (.inl (by rw [e];simp)) h)) k)
theorem VU:AT[0]? =some (i3 "append"):=by decide+kernel
theorem VV:AT[1]? =some (i3 "get"):=by decide+kernel
theorem VW:AT[2]? =some (i3 "setdefault"):=by decide+kernel
theorem VX:AT[3]? =some (i3 "pop"):=by decide+kernel
theorem Ri (h:y8 a l b n 0 aN):∃v,aN=[v]/\l.length<fG/\n .none (b.set a (.list (l++[v]))):=by
 cases h with
 |app c q=>exact gp _ rfl c q
theorem Rj (h:y8 a l b n 3 aN):aN=[]/\∃v,l.getLast? =some v/\n v (b.set a (.list l.dropLast)):=by
 cases h with
 |pop c q=>exact tT rfl _ c q
theorem Rk (h:y9 a aC b n 1 l):∃i,IntKeys aC/\((l=[.int i]/\((∃v,(AV.int i,v)∈aC/\n v b)\/(AV.int i∉aC.map (·.1)/\n .none b)))\/∃d,l=[.int i,d]/\((∃v,(AV.int i,v)∈aC/\n v b)\/(AV.int i∉aC.map (·.1)/\n d b))):=by
 cases h with
 |VN c q=>exact ei _ c (.inl ⟨rfl,q⟩)
 |Ha c q=>exact ei _ c (.inr ⟨_,rfl,q⟩)
theorem Rl (h:y9 a aC b n 2 l):∃i d,l=[.int i,d]/\IntKeys aC/\((∃v,(AV.int i,v)∈aC/\n v b)\/(AV.int i∉aC.map (·.1)/\aC.length<fG/\n d (b.set a (.dict (aC++[(.int i,d)]))))):=by
 cases h with
 |Tz c q=>exact mU _ _ rfl c q
theorem TO:Qz c a:=λns A kn m st s Q es cs km P xs x nm pl j e Y O K H F r h=>by
 refine gv (r.isList e) λkl k g q l X hz=>?_
 rcases Y with rfl |rfl
 .rw [VU] at j;(injection j with j;subst j)
  refine ug (T:="list") (ei _ g rfl) B' rW Zk (λb p=>by (injection p with p;subst p);exact (ei _ g rfl)) ?_
  refine sE O K H F r h λws Z W J C o z d=>⟨(ei .machine (.inr (.inl rfl)) (nB rfl)),?_⟩
  refine eS d λM u d=>?_
  refine gv (o.isList u) λn I i y D V B=>?_
  obtain ⟨v,rfl,U,d⟩:=Ri d
  .refine jo W C.one λw qv=>?_
   refine vX rW (ei _ i rfl) BB (SX _ _) (v3 P n I w (a_ (by exact n1 B (eB U)) ia)) ⟨i,?_⟩
   obtain ⟨N,E⟩:=o.zV (t:=J.toks) (f:=λx=>x.push w) u i (ys:=M++[v]) (by rw [sq];exact y.append (.cons qv .nil)) (by rw [bh];exact U)
   exact Ce z ⟨.none,_,.none,N,E,d⟩
 .rw [VX] at j;(injection j with j;subst j)
  refine ug (T:="list") (ei _ g rfl) B' Ey Zj (λb p=>by (injection p with p;subst p);exact (ei _ g rfl)) ?_
  refine sE O K H F r h λws Z W J C o z d=>⟨(ei .machine (.inr (.inl rfl)) (nB rfl)),?_⟩
  refine eS d λM u d=>?_
  refine gv (o.isList u) λn I i y D V B=>?_
  obtain ⟨rfl,v,R,d⟩:=Rj d
  .cases C.zero
   .refine eS (y.getLast R) λw G S=>?_
    rw [eD,gG] at G
    refine vX Ey (ei _ i rfl) Zo (Zr _) (PySem.MeetsSeq.list_pop_last P n I w G (a_ (by exact n1 B D) ia)) ⟨i,?_⟩
    obtain ⟨N,E⟩:=o.zV (t:=J.toks) (f:=λx=>x.eraseIdxIfInBounds (n.size -1)) u i (ys:=M.dropLast) (by
     have:(n.eraseIdxIfInBounds (n.size -1)).toList=n.toList.dropLast:=by
      clear e O K H F r g q l X hz h o z u i y D V B R d C G S;obtain ⟨L⟩:=n
      simp [List.eraseIdx_eq_dropLast]
     rw [this];exact y.dropLast) (by rw [List.length_dropLast];exact a_ (jS _ _) D)
    exact Ce z ⟨v,_,S.step o E,N,E,d⟩
theorem tp (e:aC.map (·.1)=cm.map (λp=>.int p.1)) (b:AV.int q∉aC.map (·.1)):jb cm q=none:=by
 induction a:jb cm q with
 |none=>rfl
 |some v=>exact absurd ((oa e).mp (by rw [a];rfl)) b
theorem stored_new (h:jb cm q=none):stored cm q J=cm++[(q,J)]:=by
 unfold stored
 rw [if_neg]
 intro a
 rw [oz] at a
 refine eS a λp c b=>?_
 simp only [jb,EB,jh] at h
 exact h p c (by simpa using b)
theorem vG (e:KeyKind bo bp Int) (d:g0) (p:e.is q J=true) (l:(d==z_)=false) (b:eJ):
 MeetsIn bo bp (vZ.«dict.setdefault» ⟨[.ref d,J,b],[]⟩) (λ_ R s=>∃a,s.heap.DictAt e d a a.length/\a.length<=x9/\
  (∀v,jb a q=some v->R (.ok (.ret v)) {s with toks:=s.toks+1})/\
  (jb a q=none->∀c,c.DictAt e d (a++[(q,b)]) (a.length+1)->iJ d s.heap c->R (.ok (.ret b)) {s with heap:=c,toks:=s.toks+1})):=
 .of_wp λA R s g=>r7 g λa f o h j=>by
  unfold vZ.«dict.setdefault»
  refine b5 ?_
  unfold UL
  refine b5 (wN f.dictOf.typeIs ?_)
  show gf _ _ (pure (d,J,some b)) _ _ s
  refine dk ?_
  show gf _ _ (if (d==z_)=true then _ else (GV d J b>>= _)) _ _ s
  rw [if_neg (by rw [l];exact gO)]
  exact b5 (BU p f (λv k=>dk (ei v rfl (h v k))) (λm c n i=>dk (ei b rfl (j m c n i))) o)
theorem TP (P:gX c):QA c a:=λns A kD m st s Q es cs kC X kH x nm pl y e ku W U O F r h=>by
 refine iP (r.oT e) λd l=>?_
 refine wZ d.obj λkF kB ep K I _=>?_
 rcases ku with rfl |rfl
 .rw [VV] at y;(injection y with y;subst y)
  refine ug (T:="dict") (ei _ K I.1) B_ tZ Zm (λb E=>by (injection E with E;subst E);exact (ei _ K I.2.1)) ?_
  refine sE W U O F r h λws kx S s' H g B j=>⟨(ei .machine (.inr (.inl rfl)) (nB rfl)),?_⟩
  refine eS j λkl p j=>?_
  refine iP (g.oT p) λz l'=>?_
  have V:=g.uF P p
  refine eS (Rk j) λi N kz=>?_
  rcases kz with ⟨rfl,Z⟩ |⟨dd,rfl,Z⟩
  .refine jo S H.one λw M=>?_
   refine r5 w (gr M) λt=>?_
   refine gi (z.GQ N) λY n q k=>?_
   refine K7 tZ n.dictOf.typeIs Dd (Zu _ _) (meets_dict_get (ub c) X (pM _ _ i t) V) (ei _ n.dictOf.mapOf ?_)
   rcases Z with ⟨v,D,f⟩ |⟨G,f⟩
   .refine eS (o6 q k z.nodup D) λu C J=>?_
    rw [C]
    exact Ce B (post_of g (iV _ _) J f)
   .rw [tp k G]
    exact Ce B (post_of g (iV _ _) .none f)
  .refine v_ S H.two λw w2 M R=>?_
   clear P e W U O r d l K I h p l' j H;refine r5 w (gr M) λt=>?_
   refine gi (z.GQ N) λY n q k=>?_
   refine K7 tZ n.dictOf.typeIs Dd (Zt _ _ _) (meets_dict_get_default (ub c) X (pM _ _ i t) V w2) (ei _ n.dictOf.mapOf ?_)
   rcases Z with ⟨v,D,f⟩ |⟨G,f⟩
   .refine eS (o6 q k z.nodup D) λu C J=>?_
    rw [C]
    exact Ce B (post_of g (iV _ _) J f)
   .rw [tp k G]
    exact Ce B (post_of g (iV _ _) R f)
 .rw [VW] at y;(injection y with y;subst y)
  refine ug (T:="dict") (ei _ K I.1) B_ zx Zl (λb E=>by (injection E with E;subst E);exact (ei _ K I.2.1)) ?_
  refine sE W U O F r h λws kx S s' H g B j=>⟨(ei .machine (.inr (.inl rfl)) (nB rfl)),?_⟩
  refine eS j λkl p j=>?_
  refine iP (g.oT p) λz l'=>?_
  have V:=g.uF P p
  obtain ⟨i,dd,rfl,N,j⟩:=Rl j
  .refine v_ S H.two λw w2 M R=>?_
   clear P e W U O r d l K I h H;refine r5 w (gr M) λt=>?_
   refine gi (z.GQ N) λY n q k=>?_
   have kq:Y.length=kl.length:=by have:=congrArg fk k;simpa using this.symm
   refine K7 zx n.dictOf.typeIs Zp (Zs _ _ _) (vG (ub c) X (pM _ _ i t) V w2) (qW _ n (a_ (by exact n1 kq l') ia) (λv L=>?_) (λL kG ky km=>?_))
   .rcases j with ⟨v',D,f⟩ |⟨G,_⟩
    .refine eS (o6 q k z.nodup D) λu C J=>?_
     rw [C] at L;obtain rfl:=d5 L
     exact Ce B (post_of g (iV _ _) J f)
    .rw [tp k G] at L;contradiction
   .rcases j with ⟨v',D,f⟩ |⟨G,kn,f⟩
    .refine eS (o6 q k z.nodup D) λu C J=>?_
     rw [C] at L;contradiction
    .have hf:=g.nR (.inl (by rw [p];simp)) km
     refine Ce B (L4 (bF:=.dict (kl++[(.int i,_)])) g p km (.inl (iD rfl (by (repeat intro _);contradiction) (by (repeat intro _);contradiction))) (.dict (.int (by rw [bh];exact ky) ?_ ?_) ?_) (R.mono hf) f)
     .rw [b_,b_];exact (q.mono hf).append (.cons (R.mono hf) .nil)
     .rw [b_,b_,k];rfl
     .rw [bh];exact kn
noncomputable def zG (B:Base) (k:Nat):Prop:=∀(A:ji) (args:List AV) (st:AS) (Q:AV->AS->Prop) (vs:List eJ) (s:eM),Ip k args st Q->mW 1 A->R B st s->h_ B s.heap vs args->WE B A (nF (Aq k) vs []) (k_ B st s Q) s
theorem qI {Q:AV->Prop} (h:One Q l):∃v,l=[v]/\Q v:=by induction h with |mk q=>exact ei _ rfl q
theorem O6 {Q:AV->AV->Prop} (h:VM Q l):∃v w,l=[v,w]/\Q v w:=by induction h with |mk q=>exact nE _ _ rfl q
theorem zW {Q:Int->Prop} (h:G_ Q i):∃a,i= .int a/\Q a:=by induction h with |mk q=>exact ei _ rfl q
variable {cX:List AV->Prop}
theorem O7 (h:OQ b cX i):∃c,cX c/\(i= .tup c\/∃a,i= .ref a/\b a=some (.list c)):=by
 induction h with
 |tup q=>exact ei _ q (.inl rfl)
 |list e q=>exact ei _ q (.inr ⟨_,rfl,e⟩)
theorem xp (h:Co b cX i):∃a c,i= .ref a/\b a=some (.list c)/\cX c:=by induction h with |mk e q=>exact mU _ _ rfl e q
theorem Rm (y:gX c):zG c 0:=λA E F Q B s h u r m=>by
 replace h:=qI h
 obtain ⟨v,rfl,h⟩:=h
 refine jo B m.one λw f=>?_
 clear u m;induction h with
 | @tup j h=>
  refine g6 w (iG f) λa z k e l q=>?_
  have b:z.size=j.length:=by rw [<-q.length,eD]
  refine P.len_tuple e (by unfold fG at l;exact Xm l) ?_
  rw [b]
  exact post_of r (iV _ _) (.int _ _) (h (by exact n1 b.symm l))
 | @list a j e h=>
  obtain rfl:=gP f
  refine gv (r.isList e) λD k g q l n b=>?_
  refine call_len_list n (by unfold fG at l;exact JE (n1 b l)) ?_
  rw [b]
  exact post_of r (iV _ _) (.int _ _) (h l)
 | @dict a x e p h=>
  obtain rfl:=gP f
  refine iP (r.oT e) λd l=>?_
  refine gi (d.GQ p) λC o q t=>?_
  have i:C.length=x.length:=by have:=congrArg fk t;simpa using this.symm
  refine call_len_dict (r.uF y e) o.dictOf (by unfold fG at l;exact JE (n1 i l)) ?_
  rw [i]
  rw [bb] at h
  exact post_of r (iV _ _) (.int _ _) (h l)
theorem L8 (q:h_ c H aj l) (d:∀x∈l,∃i,x= .int i):∃b:List Int,l=b.map .int/\GI aj b:=by
 induction aj generalizing l with
 |nil=>cases q;exact ei [] rfl .nil
 |cons v aj g=>
  cases q with
  |cons a q=>
   refine kf (d _ (.head _)) λi f=>?_;subst f
   refine r5 v (gr a) λt=>?_
   obtain ⟨b,rfl,e⟩:=g q λx h=>d x (.tail _ h)
   exact ei (i::b) rfl (.cons i t e)
theorem Rn:zG c 2:=λA kl st Q V s h D r E=>by
 replace h:=qI h;obtain ⟨x0,rfl,h⟩:=h
 replace h:=xp h;obtain ⟨a,xs,rfl,e,h⟩:=h
 refine jo V E.one λw H=>?_
 have:=gP H;subst this
 refine gi h λm y O C=>?_
 refine gv (r.isList e) λY k g q l z L=>?_
 obtain ⟨o,rfl,p⟩:=L8 q λx W=>eS (y x W) λi e _=>⟨i,e⟩
 refine kf p.allInts.items λb u=>?_
 have d:o=b.toList.map (·.1):=by rw [<-p.numsOf,<-nums_intItems,<-u]
 have G:0<b.size:=by
  have f:0<o.length:=by
   clear D r h E H C g z e y q l L p u d;induction o using el with
   |nil=>contradiction
   |cons _ _=>exact fC _
  rw [d,bb,eD] at f;exact f
 have M:s.heap.IsList a (intItems b):=by rw [<-u,Array.toArray_toList];exact z
 refine min_intList D.handled M G λv Z tk J K=>?_
 refine r5 v (intItems_at J) λt=>?_
 refine iP (argBest_lt (Er b) (b.size -1)) λf S=>?_
 have U:Er b (WU (λi j=>decide (Er b i<Er b j)) (b.size -1))=m:=by
  apply vd
  .clear D r E H C g z e y q l L p u M K J f;refine eS (ck.mp O) λR P F=>?_
   injection F with F
   clear O;subst F
   refine kf (e_.mp P) λj N=>?_
   have T:j<b.size:=by
    have:=(ey.mp N).1
    rw [d,bb] at this;simpa using this
   have:=S j (by exact (λ{m n} h=>(Nat.le_sub_one_iff_lt h).mpr) G T)
   have I:Er b j=R:=by rw [numAt_eq,<-d,ec,N];rfl
   exact le_of_le_of_eq this I
  .have X:Er b (WU (λi j=>decide (Er b i<Er b j)) (b.size -1))∈o:=by
    rw [numAt_eq,<-d,ec]
    have:WU (λi j=>decide (Er b i<Er b j)) (b.size -1)<o.length:=by rw [d,bb,eD];exact zA G f
    rw [dj this];exact fP _
   refine eS (y _ (ck.mpr ⟨_,X,rfl⟩)) λi B I=>?_
   injection B with B;exact le_of_le_of_eq I (id (rK B))
 rw [U]
 exact post_of r (qB K) (.int _ _) C
theorem Ro:zG c 3:=λA o k Q f s h l r b=>by
 replace h:=O6 h;obtain ⟨p,q,rfl,h⟩:=h
 replace h:=zW h;obtain ⟨i,rfl,h⟩:=h
 replace h:=zW h;obtain ⟨j,rfl,h⟩:=h
 refine v_ f b.two λv w e d=>?_
 clear b;refine r5 v (gr e) λt=>?_
 refine r5 w (gr d) λu=>?_
 have h:Q (.int (max i j)) k:=h
 refine Flt.max_two_num l.handled (.int i t) (.int j u) λn m g=>?_
 refine post_of r (qB g) ?_ h
 show RV c _ (if decide (i<j)=true then _ else _) _
 by_cases a:i<j
 .simp only [a,decide_true,if_true];rw [qm (zD a)];exact .int _ _
 .simp only [a,decide_false,fY,if_false];rw [Qo (by (first |exact mS a |exact ny.mp a))];exact .int _ _
theorem L9:zG c 4:=λA n x Q e s h f r b=>by
 obtain ⟨k,rfl,h⟩:∃k:List Int,n=k.map .int/\JG _ k:=h
 induction h using JG.casesOn with
 | @one i h=>
  refine jo e b.one λv a=>?_
  clear f b;refine r5 v (gr a) λt=>?_
  have g:=(iV s (s.toks+1+1)).trans (jA {s with toks:=s.toks+1+1} {cls:=.type "range",data:=.fields #[.int 0 s.toks,.int i t,.int 1 (s.toks+1)]})
  exact call_range_1 (post_of r g (.pZ (eX _ rfl) (by decide) h.2.1) h.2.2)
 | @two i j h=>
  refine v_ e b.two λv w a d=>?_
  clear f b;refine r5 v (gr a) λt=>?_
  clear a;refine r5 w (gr d) λu=>?_
  have g:=(iV s (s.toks+1)).trans (jA {s with toks:=s.toks+1} {cls:=.type "range",data:=.fields #[.int i t,.int j u,.int 1 s.toks]})
  exact call_range_2 (post_of r g (.pZ (eX _ rfl) h.1 h.2.1) h.2.2)
 | @down i j h=>
  refine g6 e b.three λv w z a d p=>?_
  clear f b;refine r5 v (gr a) λt=>?_
  refine r5 w (gr d) λu=>?_
  refine r5 z (gr p) λo=>?_
  refine mT h λl m q=>?_
  have g:=jA s {cls:=.type "range",data:=.fields #[.int i t,.int j u,.int (-1) o]}
  exact call_range_3 (by decide) (post_of r g (.pZ (eX _ rfl) l m) q) (.inl (PyProof.noPylong_small (by decide)))
theorem L_:zG c 5:=λA x B Q t s h w r i=>by
 replace h:=qI h;obtain ⟨y,rfl,h⟩:=h
 replace h:=xp h;obtain ⟨a,z,rfl,e,h⟩:=h
 refine jo t i.one λv f=>?_
 have:=gP f;clear w i f;subst this
 refine gv (r.isList e) λp k g q l o b=>?_
 refine call_tuple_list o (λd u=>?_) (a_ (by exact n1 b l) ia)
 have m:fI s {s with heap:=d}:=qB u
 have j:=jA {s with heap:=d} {cls:=.type "tuple",data:=.seq p}
 exact post_of r (m.trans j) (.tup (n:=0) (eX _ rfl) (by exact n1 b l) (q.grow (m.trans j))) h
theorem Rp:zG c 8:=λA j e Q d s h f r a=>by
 replace h:=qI h;obtain ⟨k,rfl,h⟩:=h
 replace h:=zW h;obtain ⟨i,rfl,h⟩:=h
 refine jo d a.one λv b=>?_
 clear f a;refine r5 v (gr b) λt=>?_
 have h:Q (.int i.natAbs) e:=h
 refine call_abs_int λu g=>post_of r (iV _ _) ?_ h
 have:(if i<0 then -i else i)=(i.natAbs:Int):=by split<;>(first |exact (Int.natAbs_of_nonneg (ny.mp (by assumption))).symm |exact (De (zD (by assumption))).symm)
 rw [this];exact .int _ _
theorem Rq:zG c 9:=λA g b Q f s h d r a=>by
 replace h:=qI h;obtain ⟨j,rfl,h⟩:=h
 replace h:=zW h;obtain ⟨i,rfl,h⟩:=h
 refine jo f a.one λv e=>?_
 clear d a;refine r5 v (gr e) λt=>?_
 have h:Q (.int i) b:=h
 exact call_int_int (post_of r (hU _) (.int _ _) h)
theorem R.Ma {o:AO} (r:R c b m) (g:fI m ab) (p:m.heap.get? y=none) (B:RO c ab.heap y o) (w:∀k x l,o≠.inst k x l):
 b.free y/\R c (b.set y o) ab/\St c b m (b.set y o) ab:=by
 have s:¬ik c b y:=λf=>by refine eS (r.oH f) λj F _=>?_;rw [p] at F;contradiction
 have A:c.h₀.get? y=none:=by
  induction e:c.h₀.get? y using d_ with
  |none=>rfl
  |some j=>rw [r.old y j e] at p;contradiction
 have u:b.free y:=⟨by
  induction e:b y using d_ with
  |none=>rfl
  |some j=>exact absurd (.inl (by rw [e];simp)) s,λd k l e=>s (.inr (.inl (qC d k l e)))⟩
 have z:y≠c.tab:=λe=>s (.inr (.inr e))
 have v:∀d,ik c (b.set y o) d->ik c b d\/d=y:=by
  clear r g p B s A u z;rintro d (h |⟨a,k,l,h⟩ |h)
  .by_cases i:d=y
   .exact .inr i
   .rw [gu i] at h;exact .inl (.inl h)
  .by_cases n:a=y
   .subst n;rw [gZ] at h;(injection h with h;subst h);exact absurd rfl (w _ _ _)
   .rw [gu n] at h;exact .inl (.inr (.inl (qC a k l h)))
  .exact .inl (.inr (.inr h))
 refine iD u ⟨λa j e=>?_,λd j e=>g.keep _ _ (r.old d j e),λd i=>?_,λa k x l e=>?_,?_,?_,g.gens.trans r.gens,g.os.trans r.os⟩ ⟨λd j e _=>g.keep d j e,λd i=>?_⟩
 .clear p w s A u z v;by_cases n:a=y
  .clear r g;subst n;rw [gZ] at e;(injection e with e;subst e);exact B
  .rw [gu n] at e;exact (r.objs a j e).grow g
 .rcases v d i with h |rfl
  .exact r.new d h
  .exact A
 .have n:a≠y:=λq=>by subst q;rw [gZ] at e;(injection e with e;subst e);exact absurd rfl (w _ _ _)
  rw [gu n] at e
  refine mT (r.Cv a k x l e) λC E I=>?_
  have D:x≠y:=λq=>u.2 a k l (q▸e)
  refine iD (by rw [gu D];exact C) E (λd H G t=>?_)
  clear r g p B s A u z v e n C E D;by_cases i:d=y
  .subst i;rw [gZ] at t;(injection t with t;subst t);exact absurd rfl (w _ _ _)
  .rw [gu i] at t;exact I d H G t
 .rw [gu (nD z)];exact r.vF
 .exact r.tab.mono (λa o e _=>g.keep a o e) λo e=>g.keep _ o e
 .rcases v d i with h |rfl
  .exact .inl h
  .exact .inr p
theorem uJ (r:R c b m) (g:fI m ab) (j:m.heap.get? y=none) (e:RO c ab.heap y av) (k:∀d i o,av≠.inst d i o) (h:∀d,b.free d->n (.ref d) (b.set d av)):k_ c b m n (.ref y) ab:=
 let ⟨f,a,l⟩:=r.Ma g j e k
 ⟨.ref y,_,.ref y,a,l,h y f⟩
theorem O8:zG c 10:=λA C w Q t s h o r i=>by
 replace h:=qI h;obtain ⟨B,rfl,h⟩:=h
 refine eS (O7 h) λm h e=>?_
 refine jo t i.one λv d=>?_
 have f:∀{a:g0} {T:String} {b:Array eJ} {k:Nat},(T="list"\/T="tuple")->s.heap.get? a=some (gw T b k)->b.size<=fG->h_ c s.heap b.toList m->WE c A (nF (Aq 10) [.ref a] []) (k_ c w s Q) s:=λ{a T b k} u e l q=>by
  refine call_list_seq a u e rfl rfl (λj D n x=>?_) (a_ l ia)
  have g:fI s {s with heap:=j}:=qB n
  exact uJ r g (iq _) (.list x (q.grow g) (by rw [<-q.length,eD];exact l)) (by (repeat intro _);contradiction) h
 clear o h i;clear h;rcases e with rfl |⟨a,rfl,e⟩
 .refine g6 v (iG d) λa b k e l q=>?_
  exact f (.inr rfl) e l q
 .have:=gP d;clear d;subst this
  refine gv (r.isList e) λz k g q l y p=>?_
  exact f (.inl rfl) g (by rw [p];exact l) q
theorem Rr:zG c 7:=λJ S U Q I s h y r B=>by
 replace h:=qI h;obtain ⟨M,rfl,h⟩:=h
 replace h:=xp h;obtain ⟨a,N,rfl,e,h⟩:=h
 refine jo I B.one λv D=>?_
 have:=gP D;subst this
 refine eS h λf E u=>?_;clear h;subst E
 refine gv (r.isList e) λm k g q l o t=>?_
 have H:∀(d:Nat) (v:eJ),m[d]? =some v->∃b,f[d]? =some b/\v= .bool b:=by
  intro d v p
  have j:=(Array.getElem?_eq_some_iff.mp p).1
  have z:d<f.length:=by rw [t,bb] at j;exact j
  obtain ⟨w,n,G⟩:=q.get (i:=d) (x:=.bool f[d]) (by rw [ed,dj z];rfl)
  rw [gG,p] at n;clear y r B D e u g q l o t p j;(injection n with n;subst n)
  obtain rfl:=xd G
  exact ei _ (dj z) rfl
 have j:a<s.heap.objs.size:=rv g
 refine call_any_walk (BK o ?_)
 refine ⟨s.heap.objs.size,[s.heap.objs.size,a],[s.heap.objs.size],m.size,_,_,(λd=>(f[d]?).getD false),rfl,(Walks.list (A:=J.in1) y.handled _ a (rC j) m),⟨⟨_,eX _ rfl,rfl,rfl⟩,o.push _⟩,(λd v P T O K C=>?_),(λL R F=>?_)⟩
 .refine Lk v (H d v K) λb e=>?_
  simp only [e,Option.getD_some] at C
  exact ow C
 .have e:((eR m.size).any λd=>(f[d]?).getD false)=f.any id:=by
   rw [t,bb];exact LSm.range_any f
  rw [e]
  exact post_of r (qB (LSm.kept_iter F)) (.bool _) u
noncomputable def Own (ns:gq) (env:yX) (p:g0):Prop:=p=env.locals\/∃x,ic ns x=some .cell/\env.cells.lookup x=some p
structure xq (B:Base) (env:yX) (ns:gq) (st:AS) (s:eM) (st':AS) (s':eM):Prop where
 keep:∀b o,s.heap.get? b=some o->¬ik B st b->¬Own ns env b->s'.heap.get? b=some o
 foot:∀b,ik B st' b->ik B st b\/s.heap.get? b=none
structure vl (I:g0) (s s':eM):Prop where
 keep:∀b o,b≠I->s.heap.get? b=some o->s'.heap.get? b=some o
 gens:s'.gens=s.gens
 os:s'.os=s.os
theorem St.toF (x:St c b m p ab):xq c aa r b m p ab:=⟨λa o e f _=>x.keep a o e f,x.foot⟩
theorem FR.xr (F:FR c aa r e b m) (w:Own r aa y):∃o,m.heap.get? y=some o/\¬gc o/\¬ik c b y/\c.h₀.get? y=none:=by
 rcases w with rfl |⟨x,l,i⟩
 .refine Ag F.Ax λf o j k a d _=>?_
  exact qW o a (rN d) F.Cw.1 F.Cw.2
 .refine oO (F.BV x y i) λg h v o a d=>?_
  exact qW o a (λq=>q.2.2 _ d) g h
theorem xq.trans (x:xq c aa r b m p ab) (F:FR c aa r e p ab) (y:xq c aa r p ab ax aU):xq c aa r b m ax aU where
 keep a o d f w:=y.keep a o (x.keep a o d f w) (λj=>(x.foot a j).elim f λl=>by rw [l] at d;contradiction) w
 foot a f:=(y.foot a f).elim (x.foot a) λl=>by
  by_cases g:ik c b a
  .exact .inl g
  .by_cases h:Own r aa a
   .refine eS (F.xr h) λo i _=>?_
    rw [l] at i;contradiction
   .induction d:m.heap.get? a with
    |none=>exact .inr rfl
    |some o=>rw [x.keep a o d g h] at l;contradiction
theorem xq.refl:xq c aa r b m b m:=St.refl.toF
theorem xq.frozen (h:R c b m) (F:FR c aa r e b m) (y:xq c aa r b m p ab):∀a o,m.heap.get? a=some o->gc o->ab.heap.get? a=some o:=λa o g f=>
 y.keep a o g (λq=>by
  refine eS (h.oH q) λi d n=>?_
  rw [g] at d;(injection d with d;subst d);exact n f) λw=>by
  refine gi (F.xr w) λi d n _=>?_
  rw [g] at d;(injection d with d;subst d);exact n f
theorem RV.AE (q:RV c m.heap J i) (a:R c b m) (F:FR c aa r e b m) (y:xq c aa r b m p ab):RV c ab.heap J i:=q.mono (y.frozen a F)
theorem h_.AE (q:h_ c m.heap aj l) (a:R c b m) (F:FR c aa r e b m) (y:xq c aa r b m p ab):h_ c ab.heap aj l:=q.mono (y.frozen a F)
theorem R.but (r:R c b m) (d:vl y m ab) (g:¬ik c b y) (j:c.h₀.get? y=none) (h:∀o,m.heap.get? y=some o->¬gc o):R c b ab where
 objs a o e:=(r.objs a o e).mono (λx i f k=>d.keep x i (λq=>by clear r d g j e;subst q;exact h _ f k) f) (λx f=>d.keep a x (λq=>g (.inl (by rw [<-q,e];simp))) f)
  λp s t q x f=>d.keep s x (λn=>g (.inr (.inl (qC a p t (by rw [e,q,n]))))) f
 old l o e:=d.keep l o (λq=>by clear r d g h;subst q;rw [j] at e;contradiction) (r.old l o e)
 new:=r.new
 Cv:=r.Cv
 vF:=r.vF
 tab:=r.tab.mono (λx i f k=>d.keep x i (λq=>by clear r d g j;subst q;exact h _ f k) f) λo e=>d.keep _ o (λq=>g (.inr (.inr q.symm))) e
 gens:=d.gens.trans r.gens
 os:=d.os.trans r.os
theorem RV.but (q:RV c m.heap J i) (b:vl y m ab) (d:∀o,m.heap.get? y=some o->¬gc o):RV c ab.heap J i:=
 q.mono λa o e f=>b.keep a o (λh=>by clear q b;subst h;exact d _ e f) e
theorem h_.but (q:h_ c m.heap aj l) (b:vl y m ab) (d:∀o,m.heap.get? y=some o->¬gc o):h_ c ab.heap aj l:=
 q.mono λa o e f=>b.keep a o (λh=>by clear q b;subst h;exact d _ e f) e
theorem FR.but (F:FR c aa r e b m) (g:vl y m ab) (l:aa.locals≠y) (n:∀x d,aa.cells.lookup x=some d->d≠y) (w:∀o,m.heap.get? y=some o->¬gc o):FR c aa r e b ab where
 ok:=F.ok
 holds i x v p s:=(F.holds i x v p s).mono (λa o j f=>g.keep a o (λh=>by clear F g l n p s;subst h;exact w _ j f) j) (λo j=>g.keep _ o l j) λx d h o j=>g.keep d o (n x d h) j
 len:=F.len
 Ax:=w' F.Ax λf o t u k q=>⟨f,o,t,u,(g.keep _ _ l k),q⟩
 Cw:=F.Cw
 BV x d h:=oO (F.BV x d h) λa A v o k z=>(rL a A v o (g.keep _ _ (n x d h) k) z)
 code:=F.code
theorem Fh (h:(r.map (·.1)).Nodup):(slots r).Nodup:=by
 unfold slots
 exact h.sublist (UY _ List.filter_sublist)
theorem DE {k b:vD} (h:ic r ao=some k) (a:ic r ao=some b):k=b:=by rw [h] at a;exact d5 a
set_option tactic.hygienic true in
theorem pT (F:FR c aa r e b m) (P:R c b m) (U:ot r ao=some a) (O:RV c m.heap J i) (h:∀s',FR c aa r (e.set a (some i)) b s'->R c b s'->xq c aa r b m b s'->bq () s'):WE c L (SP aa ao J) bq m:=by
 unfold ot at U
 split at U
 .rename_i k C
  split at U
  .rename_i kl
   have N:=pv U
   have S:=Fh F.ok.nd
   have Q:aa.scope.kind= .function:=F.ok.kind
   clear U;induction k with
   |«local»=>
    have kq:=F.ok.loc ao C
    clear C kl;refine kf F.Ax λf hf=>?_
    obtain ⟨oL,kD,ky,kz,kC⟩:=(F.xr (.inl rfl))
    refine wpAny_storeName_local kq hf (λK x M=>?_) (by rw [Q];rfl)
    have l:vl aa.locals m {m with heap:=K,toks:=m.toks+1}:=⟨λy o l d=>(M.2 y l).trans d,rfl,rfl⟩
    have kn:∀o,m.heap.get? aa.locals=some o->¬gc o:=λo d=>by rw [kD] at d;(injection d with d;subst d);exact ky
    have u:∀v o,m.heap.get? v=some o->gc o->K.get? v=some o:=λv o d z=>l.keep v o (λq=>by subst q;exact kn _ d z) d
    have Z:∀z n,aa.cells.lookup z=some n->∀o,m.heap.get? n=some o->K.get? n=some o:=λz n I o d=>l.keep n o (λq=>F.ok.Hh z n I q.symm) d
    refine h _ ⟨F.ok,λj z w p g=>?_,by rw [gK];exact F.len,(oq _ x),F.Cw,λz n I=>?_,F.code⟩ (P.but l kz kC kn) ⟨λy o d _ nw=>l.keep y o (λq=>nw (.inl q)) d,λy fb=>.inl fb⟩
    .clear P h Q kD ky kz kC M l kn;by_cases E:j=a
     .clear F S hf Z;subst E
      rw [N] at p;(injection p with p;subst p)
      rw [nN] at g
      split at g
      .split at g
       .injection g with g;injection g with g;subst g
        exact .inl (n0 kq _ J x (by simp) (O.mono u))
       .contradiction
      .rename_i ku;exact absurd rfl ku
     .rw [iM (nD E)] at g
      have kx:z≠ao:=λq=>by
       clear F O kq hf x u Z g;subst q
       exact E ((iX (ey.mp p).1 S).mp (p.trans N.symm))
      rcases F.holds j z w p g with ⟨H,f1,A,n1,e1,D⟩ |⟨H,n,A,t,⟨o,s,B⟩,D⟩
      .refine .inl (n0 H _ A x ?_ (D.mono u))
       show (if z=ao then some J else f z)=some A
       rw [if_neg kx]
       rw [Heap.Ns.agree hf n1 z];exact e1
      .exact .inr (n0 H n A t ⟨o,Z z n t o s,B⟩ (D.mono u))
    .refine oO (F.BV z n I) λa1 a2 w o s B=>?_
     exact rL a1 a2 w o (Z z n I o s) B
   |cell=>
    have T:=F.ok.own ao C
    obtain ⟨_,n,t⟩:=(F.ok.var ao .cell C (.inl rfl))
    refine oO (F.BV ao n t) λfc km kI oc V X=>?_
    have Y:∀o,m.heap.get? n=some o->¬gc o:=λo d q=>by rw [V] at d;(injection d with d;subst d);exact q.2.2 _ X
    refine wpAny_storeName_cell Q T t (ei oc V X) λK x M=>?_
    have l:vl n m {m with heap:=K}:=⟨λy o l d=>(M.2 y l).trans d,rfl,rfl⟩
    have u:∀v o,m.heap.get? v=some o->gc o->K.get? v=some o:=λv o d z=>l.keep v o (λq=>by clear F P O h N S Q C kl T t fc km V X x M l;subst q;exact Y _ d z) d
    have W:∀o,m.heap.get? aa.locals=some o->K.get? aa.locals=some o:=λo d=>l.keep _ o (F.ok.Hh ao n t) d
    refine h _ ⟨F.ok,λj z w p g=>?_,by rw [gK];exact F.len,?_,F.Cw,λz G I=>?_,F.code⟩ (P.but l fc km Y) ⟨λy o d _ nw=>l.keep y o (λq=>nw (.inr (ei ao C (q▸t)))) d,λy fb=>.inl fb⟩
    .clear P h Q C kl fc km V X Y M;by_cases E:j=a
     .clear F S l W;subst E
      rw [N] at p;(injection p with p;subst p)
      rw [nN] at g
      split at g
      .split at g
       .injection g with g;injection g with g;subst g
        exact .inr (n0 (by rw [T];simp) n J t x (O.mono u))
       .contradiction
      .rename_i ku;exact absurd rfl ku
     .rw [iM (nD E)] at g
      have kx:z≠ao:=λq=>by
       clear F O T t x l u W g;subst q
       exact E ((iX (ey.mp p).1 S).mp (p.trans N.symm))
      rcases F.holds j z w p g with ⟨H,f1,A,⟨o,es,ep,s,q2⟩,e1,D⟩ |⟨H,G,A,kB,⟨o,s,B⟩,D⟩
      .exact .inl (n0 H f1 A ⟨o,es,ep,W o s,q2⟩ e1 (D.mono u))
      .exact .inr (n0 H G A kB ⟨o,l.keep G o (λq=>kx (F.ok.apart z ao G kB (q▸t))) s,B⟩ (D.mono u))
    .obtain ⟨f,o,es,ep,s,q2⟩:=F.Ax
     exact ⟨f,o,es,ep,(W o s),q2⟩
    .clear P O h N S Q C kl T t fc km V X Y M u W;refine oO (F.BV z G I) λa1 a2 w o s B=>?_
     clear F I;by_cases kF:G=n
     .clear l s B;subst kF;refine eS x λo' kG kH=>?_;exact rL a1 a2 _ o' kG kH
     .exact rL a1 a2 w o (l.keep G o kF s) B
   |_=>contradiction
  .contradiction
 .contradiction
inductive wM (B:Base) (h:vY) (I:g0):It->List AV->Nat->Prop where
 |list {a:g0} {xs:List AV} {i:Nat}:h.IsListIter I a i->a≠I->wM B h I (.list a xs) xs i
 |tup {t:g0} {items:Array eJ} {n:Nat} {xs:List AV} {i:Nat}:h.IsTupleIter I t i->h.get? t=some (gw "tuple" items n)->h_ B h items.toList xs->t≠I->wM B h I .tup xs i
 |dict {a:g0} {ks:List AV} {i:Nat}:h.IsKeyIter I a i ks.length ks.length->a≠I->(∀k∈ks,∃i,k= .int i)->wM B h I (.dict a ks) ks i
 |pZ {x left step:Int} {xs:List AV} {i:Nat}:IsRangeIter h I x left step->0<=left->xs.drop i=(eR left.toNat).map (λ(k:Nat)=>.int (x+step*k))->wM B h I .pZ xs i
variable {bC:It}
theorem wM.mono (q:wM c H y bC l a) (i:∀d o,H.get? d=some o->gc o->b8.get? d=some o) (g:∀o,H.get? y=some o->b8.get? y=some o):wM c b8 y bC l a:=by
 induction q with
 |list d b=>refine eS d λo f r=>?_;exact .list (ei o (g _ f) r) b
 |tup d e r b=>refine eS d λo f j=>?_;exact .tup (ei o (g _ f) j) (i _ _ e (iD (.inl rfl) (by (repeat intro _);contradiction) (by (repeat intro _);contradiction))) (r.mono i) b
 |dict d b h=>refine eS d λo f r=>?_;exact .dict (ei o (g _ f) r) b h
 |pZ d b h=>exact .pZ (g _ d) b h
theorem wM.nf (q:wM c H y bC l a):∃o,H.get? y=some o/\¬gc o:=by
 have i:∀{o:Zi} {T:String},o.cls= .type T->T≠"tuple"->T≠"range"->T≠"code"->¬gc o:=λg j k n f=>by
  rcases f.1 with q |q |q<;>rw [g] at q<;>injection q with q
  .exact j q
  .exact k q
  .exact n q
 induction q using wM.casesOn with
 |list d b=>refine gi d λo h g _=>?_;exact ei o h (i g (by decide) (by decide) (by decide))
 |tup d e r b=>refine gi d λo h g _=>?_;exact ei o h (i g (by decide) (by decide) (by decide))
 |dict d b m=>refine gi d λo h g _=>?_;exact ei o h (i g (by decide) (by decide) (by decide))
 |pZ d b m=>exact ei _ d (i rfl (by decide) (by decide) (by decide))
theorem Mb (c:q.natAbs<=1000000) (b:aB.natAbs<=1000000) (d:cf=1\/cf= -1):BC q aB cf=true:=by
 have a:∀x:Int,x.natAbs<=3000000->wH x=true:=by
  intro x f
  unfold wH
  simp only [eW,decide_eq_true_eq]
  exact Rd f
 have e:(iz q aB cf).natAbs<=3000000:=by
  unfold iz
  rcases d with rfl |rfl
  .simp only [show (1:Int)>0 by decide,if_true,pQ]
   split<;>(first |exact Ws c b |exact fA _)
  .simp only [show ¬(-1:Int)>0 by decide,if_false,BG,pQ]
   split<;>(first |exact Ws b c |exact fA _)
 unfold BC
 rw [a q (by exact a_ c (by decide)),a aB (by exact a_ b (by decide)),a cf (by (clear c b a e;rcases d with rfl |rfl<;>decide)),a _ e]
 clear c e;rcases d with rfl |rfl
 .simp only [show (1:Int)>0 by decide,if_true];rw [a _ (by exact n1 (congrArg Lh (Tf aB)) (a_ b (by decide)))];simp
 .simp only [show ¬(-1:Int)>0 by decide,if_false];rw [a _ (by exact n1 (congrArg Lh (Tf aB)) (a_ b (by decide)))];simp
variable {bK:It->List AV->Prop}
theorem wd (E:gX c) (r:R c b m) (w:RV c m.heap J i) (h:om b bK i):
 WE c L (QY J) (λM C=>∃I t n,M= .ref I/\fI m C/\m.heap.get? I=none/\wM c C.heap I t n 0/\bK t n) m:=by
 have u:∀{a:g0} {o:Zi},m.heap.get? a=some o->a≠m.heap.objs.size:=λe q=>by subst q;rw [iq] at e;contradiction
 induction h with
 | @tup n h=>
  refine g6 J (iG w) λa W k e l q=>?_
  refine wpAny_pyIter_tuple (tc _ e rfl _ rfl) (gE _ _ _ rfl (jA _ _) (iq _) (.tup ⟨_,eX _ rfl,rfl,rfl⟩ (fq _ e) (q.grow (jA m _)) (u e)) h)
 | @pZ v j s n f h=>
  cases w with
  |pZ B y D=>
   have x:s=1\/s= -1:=by
    unfold xa at f
    by_cases z:s=1
    .exact .inl z
    .rw [if_neg z] at f
     by_cases F:s= -1
     .exact .inr F
     .rw [if_neg F] at f;contradiction
   refine wpAny_pyIter_range B (Mb y D x) (gE _ _ _ rfl (jA _ _) (iq _) (.pZ (eX _ rfl) ?_ ?_) h)
   .unfold iz
    rcases x with rfl |rfl
    .simp only [show (1:Int)>0 by decide,if_true,pQ];split<;>(first |exact v9 _ |exact Wt (by assumption))
    .simp only [show ¬(-1:Int)>0 by decide,if_false,BG,pQ];split<;>(first |exact v9 _ |exact Wt (by assumption))
   .unfold xa at f
    clear E r u h y D B;rcases x with rfl |rfl
    .rw [if_pos rfl] at f;(injection f with f;subst f)
     have:(iz v j 1).toNat=(j -v).toNat:=by
      unfold iz
      simp only [show (1:Int)>0 by decide,if_true,pQ];split<;>(first |exact congrArg qk (nx _ _) |exact Wu (by assumption))
     rw [this,rJ]
     apply fo;intro k _;congr 1;rw [U1]
    .rw [if_neg (by decide),if_pos rfl] at f;(injection f with f;subst f)
     have:(iz v j (-1)).toNat=(v -j).toNat:=by
      unfold iz
      simp only [show ¬(-1:Int)>0 by decide,if_false,BG,pQ];split<;>(first |exact congrArg qk (nx _ _) |exact Wu (by assumption))
     rw [this,rJ]
     apply fo;intro k _;congr 1;exact Wv
 | @list a n e h=>
  obtain rfl:=gP w
  refine gv (r.isList e) λU k g q l H V=>?_
  exact BK H (gE _ _ _ rfl (jA _ _) (iq _) (.list ⟨_,eX _ rfl,rfl,rfl⟩ (u g)) h)
 | @dict a P e j h=>
  obtain rfl:=gP w
  refine iP (r.oT e) λd l=>?_
  refine gi (d.GQ j) λS A q N=>?_
  have G:S.length=(P.map (·.1)).length:=by have:=congrArg fk N;simpa using this.symm
  refine wpAny_pyIter_dict (r.uF E e) A (gE _ _ _ rfl (jA _ _) (iq _) (.dict ?_ ?_ (λk O=>by refine iQ k (ck.mp O) λp K=>?_;exact j p K)) h)
  .rw [<-G];exact gp _ (eX _ rfl) rfl rfl
  .refine i_ A λo T Q _=>?_;exact u Q
theorem Hm (q:wM c m.heap y bC l a) (h:aG (.ref y) m):WE c L (QY (.ref y)) aG m:=by
 induction q with
 |list d b=>exact wpAny_pyIter_listiter d h
 |tup d e r b=>exact wpAny_pyIter_tupleiter d h
 |dict d b f=>exact wpAny_pyIter_keyiter d h
 |pZ d b f=>exact wpAny_pyIter_rangeiter d h
set_option tactic.hygienic true in
theorem int_is (h:(WS bo bp).is q J=true):∃t,J= .int q t:=by
 rcases J with ⟨⟩<;>simp [WS,Value.isInt] at h
 rename_i i t;subst h;exact ⟨t,rfl⟩
set_option tactic.hygienic true in
theorem wM.next {A:ji} (q:wM c m.heap y bC l a) (r:R c b m) (I:bC.ok b) (C:l[a]? =some i):
 WE c A (Vf (.ref y)) (λY O=>∃w,Y=some w/\vl y m O/\wM c O.heap y bC l (a+1)/\RV c O.heap w i) m:=by
 refine eS q.nf λoI T Q=>?_
 have B:∀{x:vY} {t:Nat},iJ y m.heap x->vl y m {m with heap:=x,toks:=t}:=λn=>⟨λu o B e=>(n.2 u B).trans e,rfl,rfl⟩
 have J:∀{x:vY},iJ y m.heap x->∀s o,m.heap.get? s=some o->gc o->x.get? s=some o:=λn s o e f=>(n.2 s λz=>by clear q r I C B n;subst z;rw [T] at e;(injection e with e;subst e);exact Q f).trans e
 cases q with
 |list s u=>
  rename_i la
  refine gv (r.isList I) λky Z g q kn il hz=>?_
  refine eS (q.get C) λw G K=>?_
  rw [gG] at G
  exact wpAny_pyNext_list_item s il G λx D n=>qW w rfl (B n) (.list D u) (K.mono (J n))
 |tup s e q u=>
  refine eS (q.get C) λw G K=>?_
  rw [gG] at G
  exact wpAny_pyNext_tuple_item s (tc _ e rfl _ rfl) G λx D n=>qW w rfl (B n) (.tup D ((n.2 _ u).trans e) (q.mono (J n)) u) (K.mono (J n))
 |dict s u E=>
  refine eS I λkz hk N=>?_
  refine iP (r.oT hk) λd kn=>?_
  obtain ⟨F,hd,q,V⟩:=d.GQ λp hp=>E _ (N▸ck.mpr (ei p hp rfl))
  have M:F.length=l.length:=by have:=congrArg fk (V.symm.trans N);simpa using this
  have S:a<F.length:=by rw [M];exact (ey.mp C).1
  have ku:l[a]? =some (.int F[a].1):=by rw [<-N,V,ed,dj S];rfl
  rw [ku] at C;obtain rfl:=d5 C
  rw [<-M] at s
  refine wpAny_pyNext_dict_item s hd (k:=F[a].1) (v:=F[a].2) (dj S) λkl x km D n=>?_
  refine r5 kl (int_is km) λt=>?_
  rw [M] at D
  exact qW _ rfl (B n) (.dict D u E) (.int _ _)
 |pZ s u E=>
  rename_i kx left U
  have H:0<left:=by
   clear r T Q B J s I;rcases Int.lt_or_le 0 left with h |h
   .exact h
   .have:left=0:=by exact rK (vd u h)
    clear u h;subst this
    have hn:l.drop a=[]:=E
    have:=(ey.mp C).1
    have L:=congrArg fk hn
    rw [eA] at L;simp at L;exact absurd (nK L) (ya.mpr this)
  have hy:i= .int kx:=by
   have P:(l.drop a)[0]? =some i:=by rw [pf];simpa using C
   rw [E,ed,jy (by exact Tc.mpr H)] at P
   simp at P;exact P.symm
  subst hy
  refine wpAny_pyNext_range_item s H λx D n=>qW _ rfl (B n) (.pZ D (by exact v8 H) ?_) (.int _ _)
  have X:l.drop (a+1)=(l.drop a).drop 1:=by rw [ip]
  rw [X,E]
  obtain ⟨j,W⟩:∃j,left.toNat=j+1:=oq (left.toNat -1) (by exact Ol (d:=0) (Tc.mpr H))
  have kq:(left -1).toNat=j:=by exact tn W
  rw [W,kq,uj,eI,List.drop_one,List.tail_cons,ew]
  apply fo
  intro Z _
  simp only [oA]
  congr 1
  rw [Tb U,Tb U]
  push_cast
  rw [Int.add_mul];exact Xn
set_option tactic.hygienic true in
theorem wM.done {A:ji} (q:wM c m.heap y bC l a) (r:R c b m) (B:bC.ok b) (s:A.handled=none) (u:l[a]? =none):
 WE c A (Vf (.ref y)) (λv I=>v=none/\vl y m I) m:=by
 have j:∀{i:vY} {t:Nat},S4 y m.heap i->vl y m {m with heap:=i,toks:=t}:=λf=>⟨λn o j e=>f n o j e,rfl,rfl⟩
 cases q with
 |list h n=>
  obtain ⟨M,k,g,q,K,D,J⟩:=r.isList B
  exact wpAny_pyNext_list_end s h D (EM (by rw [J];exact ix.mp u)) λi f=>⟨rfl,j f⟩
 |tup h e q n=>
  exact wpAny_pyNext_tuple_end s h (tc _ e rfl _ rfl) (EM (by rw [<-eD,q.length];exact ix.mp u)) λi f=>⟨rfl,j f⟩
 |dict h n w=>
  obtain ⟨O,H,z⟩:=B
  obtain ⟨d,K⟩:=r.oT H
  obtain ⟨L,E,q,G⟩:=d.GQ λp F=>w _ (z▸ck.mpr (ei p F rfl))
  have x:L.length=l.length:=by have:=congrArg fk (G.symm.trans z);simpa using this
  rw [<-x] at h
  exact wpAny_pyNext_dict_end s h E (iC (by rw [x];exact ix.mp u)) λi f=>⟨rfl,j f⟩
 |pZ h n w=>
  rename_i P left N
  refine wpAny_pyNext_range_end s h ?_ λi f=>⟨rfl,j f⟩
  have C:=congrArg fk w
  rw [eA,bb,fg] at C
  have:=ix.mp u
  exact Oh.mp (C.symm.trans (vE this))
theorem zc (q:wM c m.heap y bC l a) (p:gg) (v:eJ) (h:bq () m):WE c L (rV p (.ref y) v) bq m:=by
 have k:∀{o:Zi} {T:String} {s:Array eJ} {d:g0},m.heap.get? y=some o->o.cls= .type T->o.data= .fields s->(["enumerate","zip","dict_itemiterator","dict_reverseitemiterator","odict_iterator","itertools.zip_longest","itertools.pairwise"].contains T)=false->
  WE c L (load y>>= λo=>match o.cls,o.data with
   | .type n,.fields s=>if (["enumerate","zip","dict_itemiterator","dict_reverseitemiterator","odict_iterator","itertools.zip_longest","itertools.pairwise"].contains n&&s[0]? ==some (K5 d))=true then (rule "for.unpacks-the-owned-tuple">>= λ_=>updateField y 0 .none) else pure ()
   |_,_=>pure ()) bq m:=by
  intro o T s d i j f w
  refine b5 (wpAny_load i ?_)
  rw [j,f]
  dsimp only
  rw [w,Bool.false_and,if_neg (by decide)]
  exact dk h
 have t:∀d,WE c L (rV p (.ref y) (.ref d)) bq m:=by
  intro d
  have g:WE c L (rV (.List [] p.pos) (.ref y) (.ref d)) bq m:=by
   induction q using wM.casesOn with
   |list x b=>refine gi x λo i j f=>?_;exact k i j f (by decide)
   |tup x e r b=>refine gi x λo i j f=>?_;exact k i j f (by decide)
   |dict x b u=>refine gi x λo i j f=>?_;exact k i j f (by decide)
   |pZ x b u=>exact k x rfl rfl (by decide)
  clear k q
  induction p using ui with
  |List=>exact g
  |Tuple=>exact g
  |_=>exact dk h
 clear k q
 induction v using qc with
 |ref d=>exact t d
 |_=>clear t;induction p using ui with |_=>exact dk h
theorem CA:∀{a:List gg} {l:List Nat},uC r a=some l->l.length=a.length:=by
 intro d
 induction d with
 |nil=>
  intro _ h
  (injection h with h;subst h);rfl
 |cons e g c=>
  intro l h
  obtain ⟨x,p,i,f,_,b,rfl,rfl⟩:=tj h
  exact congrArg rY (c b)
theorem yo:∀{a:List gg} {l:List Nat},uC r a=some l->(Ab a aa).length=a.length/\(Ab a aa).findIdx? (·.1)=none:=by
 intro j
 induction j with
 |nil=>
  intro _ _
  exact ⟨rfl,rfl⟩
 |cons e g f=>
  intro l h
  obtain ⟨x,p,i,k,_,d,rfl,rfl⟩:=tj h
  refine iP (f d) λb c=>?_
  refine ⟨congrArg rY b,?_⟩
  show List.findIdx? (·.1) ((false,x_ (.Name x p) aa)::Ab g aa)=none
  rw [KX,c];rfl
noncomputable def pJ (m:MM) (l:List Nat) (xs:List AV):MM:=(l.zip xs).foldl (λm p=>m.set p.1 (some p.2)) m
theorem Mc:∀{j:List gg} {l:List Nat} {d:List eJ} {a:List AV} {m:MM} {s:eM},uC r j=some l->FR c aa r m b s->R c b s->h_ c s.heap d a->a.length=l.length->
 ∀{Q:Unit->eM->Prop},(∀g,FR c aa r (pJ m l a) b g->R c b g->xq c aa r b s b g->Q () g)->WE c L (ru ((Ab j aa).map (·.2)) d) Q s:=by
 intro I
 induction I with
 |nil=>
  intro l d a m s f F k q n Q h
  (injection f with f;subst f)
  have:a=[]:=gW.mp n
  clear n;subst this;cases q
  exact dk (h s F k .refl)
 |cons e j G=>
  intro l d a m s f F k q n Q h
  obtain ⟨x,p,i,K,B,u,rfl,rfl⟩:=tj f
  induction a using el with
  |nil=>contradiction
  |cons y J=>
   cases q with
   | @cons v _ d _ D z=>
    show WE c L (do yT d (x_ (.Name x p) aa v);ru ((Ab j aa).map (·.2)) d) Q s
    refine b5 (f7 (Se (pT F k B D λg t C o=>?_)))
    exact G u t C (z.AE k F o) (by simpa using n) λw A H E=>h w A H (o.trans t E)
theorem Sv:jI [a] i e=some (e.set a (some i)):=rfl
variable {bQ:MM}
theorem we (f:2<=C.length) (h:jI C i e=some bQ):∃c,i= .tup c/\c.length=C.length/\bQ=pJ e C c:=by
 match C,f with
 |a::b::r,_=>
  induction i using AV.casesOn with
  |tup c=>exact iP (Ly h) λd h=>⟨_,rfl,d,h.symm⟩
  |_=>contradiction
theorem DF (F:FR c aa r e b m) (n:R c b m) (w:L.handled=none) (d:An r a0=some C) (j:jI C i e=some bQ) (A:RV c m.heap J i) (h:∀f,FR c aa r bQ b f->R c b f->xq c aa r b m b f->bq () f):WE c L (x_ a0 aa J) bq m:=by
 induction a0 using ui with
 |Name y p=>
  refine eS (fX.mp d) λW G t=>?_;clear w d;subst t
  (injection j with j;subst j)
  exact Se (pT F n G A h)
 |Tuple T k p=>
  refine eS (jn.mp d) λl u d=>?_
  refine iP (Ly d) λx d=>?_
  .subst d
   refine gi (we x j) λH t B M=>?_;clear x j d;subst t;subst M
   refine g6 J (iG A) λa P U s V q=>?_
   refine iP (yo (aa:=aa) u) λE Q=>?_
   have N:P.size=H.length:=by rw [<-q.length,eD]
   refine QV w (tc _ s rfl _ rfl) (by rw [E,N,B,CA u]) Q λv K=>?_
   have g:fI m {m with heap:=v}:=qB λI o s=>K I o (λz=>by subst z;rw [iq] at s;contradiction) s
   have y:St c b m b {m with heap:=v}:=.grow g
   exact Mc u (F.step n y) (n.grow g) (q.grow g) B λf S O D=>h f S O (y.toF.trans (F.step n y) D)
 |_=>contradiction
theorem BY (g:m.heap.get? y=some (listOf bf a)) (f:0<=q) (e:q.toNat<bf.size) (d:bf.size<=fG) (h:bq () {m with heap:=m.heap.update y (fL (·.setIfInBounds q.toNat J))}):WE c L (GF (.ref y) (.int q bI) J) bq m:=by
 have b:m.TypeIs (.ref y) "list":=ei _ g rfl
 have i:q<2 ^ 63:=by unfold fG at d;exact To e d
 unfold GF
 try with_reducible refine f7 ?_
 refine b5 (uc b (by decide) ?_)
 refine b5 (pW (name:=i3 "__setitem__") b ue
  (nq ue b Q0 ?_ (Sk _ _ _)))
 show gf _ _ (pY (.int q bI)>>= _) _ _ m
 refine b5 (wpAny_listSubscript_int (fitsIndex_of f i) ?_)
 obtain ⟨j,rfl⟩:=t9 f
 have k:j<bf.size:=by simpa using e
 have l:bf[j]? =some bf[j]:=oB k
 show gf _ _ ((seqItemAt y j>>= λr=>pure (r.map (j,·)))>>= _) _ _ m
 refine b5 (b5 (wpAny_seqItemAt g rfl (dk ?_)))
 rw [l]
 show gf _ _ (setSeqItemAt y j J>>= _) _ _ m
 refine b5 (wpAny_setSeqItemAt g rfl ?_)
 first
  |exact b5 (dk (dk (ei .none rfl (dk h))))
  |exact dk ⟨.none,rfl,dk h⟩
theorem AF {i:Array eJ} {u:Tok} (g:m.heap.get? y=some (listOf bf a)) (r:m.heap.get? aW=some (listOf i d)) (z:y≠aW) (B:m.heap.IsSliceOf cV (.int q bI) (.int aB u) .none) (e:0<=q) (b:q<=aB) (n:aB.toNat<=bf.size) (l:bf.size+i.size<=fG) (h:bq () {m with heap:=m.heap.update y (fL λj=>j.extract 0 q.toNat++i++j.extract aB.toNat j.size)}):WE c L (GF (.ref y) (.ref cV) (.ref aW)) bq m:=by
 have p:m.TypeIs (.ref y) "list":=ei _ g rfl
 have C:m.TypeIs (.ref aW) "list":=ei _ r rfl
 refine gi (id B) λA f w o=>?_
 have s:m.TypeIs (.ref cV) "slice":=ei A f w
 have k:=ia
 unfold GF
 try with_reducible refine f7 ?_
 refine b5 (uc p (by decide) ?_)
 refine b5 (pW (name:=i3 "__setitem__") p ue
  (nq ue p Q0 ?_ (Sk _ _ _)))
 show gf _ _ (pY (.ref cV)>>= _) _ _ m
 refine b5 ?_
 unfold pY
 refine b5 (rU s slice_no_index ?_)
 simp only [Ib,if_true]
 refine dk ?_
 show gf _ _ (typeOf (.ref cV)>>= _) _ _ m
 refine b5 (sr s ?_)
 rw [if_neg (by decide)]
 rw [listSliceParts_eq]
 refine b5 (b5 (ud f o (x:=.none) rfl (b5 (GS .none ?_))))
 rw [if_neg (by decide)]
 refine b5 (ud f o (x:=.int q bI) rfl (b5 (GS (.int q bI) ?_)))
 refine b5 (ud f o (x:=.int aB u) rfl (b5 (GS (.int aB u) (dk ?_))))
 dsimp only
 have v:yZ (.ref y) (.ref aW)=false:=by
  unfold yZ
  exact beq_false_of_ne z
 rw [v]
 simp only [fY,if_false]
 refine b5 ?_
 unfold UH
 refine b5 (sr C ?_)
 rw [if_pos (by decide)]
 unfold UE
 refine b5 (sX r rfl ?_)
 refine dk ?_
 refine b5 (b5 (sX g rfl (dk ?_)))
 refine b5 (Y0 (sliceIndices_raw (some q) (some aB) none bf.size (by simp)) ?_)
 have D:uf (some q) (some aB) none bf.size=(q,aB,1):=by
  simp only [uf,KV,show (1:Int)>0 by decide,if_true,if_neg (show ¬q<0 by exact oF e),if_neg (show ¬aB<0 by exact ny.mpr (jG e b))]
  congr 1
  .exact Ww e b n
  .congr 1;exact Ww (jG e b) (v9 _) n
 rw [D]
 dsimp only
 rw [if_pos (by decide)]
 refine b5 (nI ?_)
 rw [if_neg (by unfold yY;simp only [decide_eq_true_eq];exact i6.mpr (a_ l k))]
 have t:(max q aB).toNat=aB.toNat:=by rw [qm b]
 rw [t]
 refine b5 ?_
 show gf _ _ (updateSeq y _) _ _ m
 refine wpAny_updateSeq g rfl ?_ (by exact a_ (eh _ _) (a_ l k)) ?_
 .refine b5 (Y3 ?_)
  first
   |exact dk (ei .none rfl (dk h))
   |exact b5 (dk (dk ⟨.none,rfl,dk h⟩))
 .simp only [Array.size_append,Array.size_extract];exact Xp (Lg b) n (a_ l k)
theorem Fi (HB:gX c) (U:mW a L) (r:R c b m) {Q:AS->Prop} (O:RV c m.heap J i) (D:RV c m.heap aV af) (A:RV c m.heap cU b7) (h:OR b b7 Q i af) (M:∀kq s',R c kq s'->St c b m kq s'->Q kq->bq () s'):WE c L (GF J aV cU) bq m:=by
 induction h with
 | @list I v j e h0 h1 B=>
  obtain rfl:=gP O
  refine r5 aV (gr D) λkm=>?_
  refine gv (r.isList e) λku aV g q l il hz=>?_
  refine BY g h0 (by exact fD h1 (id (rK hz))) (by exact n1 hz l) ?_
  obtain ⟨C,G⟩:=r.zV (t:=m.toks) (f:=λb7=>b7.setIfInBounds j.toNat cU) e g (ys:=v.set j.toNat b7) (by
   rw [Array.toList_setIfInBounds];exact q.set A _) (by rw [gK];exact l)
  exact M _ _ C G B
 | @dict I k af e S T B=>
  obtain rfl:=gP O
  refine iP (r.oT e) λd l=>?_
  have K:ik c b I:=.inl (by rw [e];simp)
  rcases S with ⟨⟨n,rfl⟩,hi⟩ |⟨S,ht⟩
  .refine r5 aV (gr D) λkm=>?_
   refine gi (d.GQ hi) λF N q w=>?_
   have W:F.length=k.length:=by have:=congrArg fk w;simpa using this.symm
   have V:=N.dictOf.typeIs (s:=m)
   unfold GF
   try with_reducible refine f7 ?_
   refine b5 (uc V (by decide) ?_)
   refine b5 (pW (name:=i3 "__setitem__") V Sh
    (nq Sh V entry_dict_setitem ?_ (args_dict_setitem _ _ _)))
   show gf _ _ (UK "__setitem__" ⟨[.ref I,.int n km,cU],[]⟩>>= _) _ _ m
   refine b5 (wN V ?_)
   show gf _ _ (K6 I (.int n km) cU>>= _) _ _ m
   refine b5 (wc (knd:=ub c) (pM _ _ n km) N (λX kl z y=>dk (ei .none rfl (dk ?_))) (λX kl z y=>dk (ei .none rfl (dk ?_))) (a_ (by exact n1 W (eB T)) ia))
   .have x:=r.nR K y
    have E:AV.int n∈k.map (·.1):=(oa w).mp (by induction hv:jb F n using d_ with
     |none=>exact absurd hv kl
     |some _=>rfl)
    have u:dictPut k (.int n) b7=k.map λp=>if p.1= .int n then (.int n,b7) else p:=by unfold dictPut;rw [if_pos E]
    have P:RO c X I (.dict (dictPut k (.int n) b7)):=by
     refine .dict (.int (by rw [bb];exact z) ?_ ?_) (by rw [u,bb];exact l)
     .rw [u]
      clear u E kl z N B M T l d e W hi
      induction k generalizing F with
      |nil=>induction F using el with
       |nil=>exact .nil
       |cons _ _=>clear HB U r A O K D V y x q;contradiction
      |cons p ps ih=>
       induction F using el with
       |nil=>clear HB U r A O K D V y x ih q;contradiction
       |cons iv F=>
        simp only [eI,iA] at w⊢
        cases q with
        |cons q1 q2=>
         have he:(p.1=AV.int n)↔iv.1=n:=by rw [w.1];exact ⟨λh=>by injection h,λh=>by rw [h]⟩
         refine .cons ?_ (ih _ q2 w.2)
         by_cases H:iv.1=n
         .rw [if_pos H,if_pos (he.mpr H)];exact A.mono x
         .rw [if_neg H,if_neg (λi=>H (he.mp i))];exact q1.mono x
     .rw [u,ew,ew]
      have e1:k.map ((λb7=>b7.1)∘λp=>if p.1= .int n then (.int n,b7) else p)=k.map (·.1):=by
       apply fo;intro p _;simp only [oA];split
       .rename_i hp;exact hp.symm
       .rfl
      have e2:F.map ((λp:Int×eJ=>AV.int p.1)∘λkv=>if kv.1=n then (kv.1,cU) else kv)=F.map λp=>.int p.1:=by
       apply fo;intro p _;simp only [oA];split<;>rfl
      rw [e1,e2];exact w
    obtain ⟨C,G⟩:=r.upd (t:=m.toks+1) (o:=.dict (dictPut k (.int n) b7)) e y (.inl (iD rfl (by (repeat intro _);contradiction) (by (repeat intro _);contradiction))) P
    exact M _ _ C G B
   .have x:=r.nR K y
    have E:AV.int n∉k.map (·.1):=λhm=>by
     have:=(oa w).mpr hm
     rw [kl] at this;contradiction
    have u:dictPut k (.int n) b7=k++[(.int n,b7)]:=by unfold dictPut;rw [if_neg E]
    have P:RO c X I (.dict (dictPut k (.int n) b7)):=by
     refine .dict (.int (by rw [bh];exact z) ?_ ?_) (by rw [u,bh];exact T)
     .rw [u,b_,b_];exact (q.mono x).append (.cons (A.mono x) .nil)
     .rw [u,b_,b_,w];rfl
    obtain ⟨C,G⟩:=r.upd (t:=m.toks+1) (o:=.dict (dictPut k (.int n) b7)) e y (.inl (iD rfl (by (repeat intro _);contradiction) (by (repeat intro _);contradiction))) P
    exact M _ _ C G B
  .refine gi (d.VP ht) λZ N q w=>?_
   refine kf S.1 λv kn=>?_;subst kn
   refine nc (iG D) λkx ky k' kn g _ q'=>?_;subst kn
   have W:Z.length=k.length:=by have:=congrArg fk w;simpa using this.symm
   refine wpAny_setItem_heap (knd:=tupK c) (vi U) ⟨S,D⟩ N (λX z y=>?_) (a_ (by exact n1 W (eB T)) ia)
   have x:=r.nR K y
   induction Y:Sj Z (.tup v) using d_ with
   |none=>
    have E:AV.tup v∉k.map (·.1):=λhm=>by
     have:=(tm w).mpr hm
     rw [Y] at this;contradiction
    have u:dictPut k (.tup v) b7=k++[(.tup v,b7)]:=by unfold dictPut;rw [if_neg E]
    rw [storedH_new Y] at z
    have P:RO c X I (.dict (dictPut k (.tup v) b7)):=by
     refine .dict (.tup z ?_ ?_ ?_) (by rw [u,bh];exact T)
     .rw [u,b_,b_];exact (q.mono x).append (.cons (A.mono x) .nil)
     .rw [u,b_,b_,w];rfl
     .rw [u];simp
    obtain ⟨C,G⟩:=r.upd (t:=m.toks+(tupK c).draws (.tup v)) (o:=.dict (dictPut k (.tup v) b7)) e y (.inl (iD rfl (by (repeat intro _);contradiction) (by (repeat intro _);contradiction))) P
    exact M _ _ C G B
   |some p=>
    have E:AV.tup v∈k.map (·.1):=(tm w).mp (by rw [Y];rfl)
    have u:dictPut k (.tup v) b7=k.map λp=>if p.1= .tup v then (.tup v,b7) else p:=by unfold dictPut;rw [if_pos E]
    rw [storedH_old Y] at z
    have P:RO c X I (.dict (dictPut k (.tup v) b7)):=by
     refine .dict (.tup z ?_ ?_ ?_) (by rw [u,bb];exact l)
     .rw [u]
      clear u E z N B M T l d e W ht Y
      induction k generalizing Z with
      |nil=>clear HB U r A O K S D g q' y x q;induction Z using el with
       |nil=>exact .nil
       |cons _ _=>contradiction
      |cons p ps ih=>
       induction Z using el with
       |nil=>clear HB U r A O K S D g q' y x ih q;contradiction
       |cons iv F=>
        simp only [eI,iA] at w⊢
        cases q with
        |cons q1 q2=>
         refine .cons ?_ (ih _ q2 w.2)
         unfold putAt
         by_cases H:iv.1= .tup v
         .rw [if_pos H,if_pos (w.1.trans H)];exact A.mono x
         .rw [if_neg H,if_neg (λi=>H (w.1.symm.trans i))];exact q1.mono x
     .rw [u,ew,keys_map_putAt]
      have e1:k.map ((λb7=>b7.1)∘λp=>if p.1= .tup v then (.tup v,b7) else p)=k.map (·.1):=by
       apply fo;intro p _;simp only [oA];split
       .rename_i hp;exact hp.symm
       .rfl
      rw [e1];exact w
     .rw [u]
      intro hn
      rw [jx] at hn
      clear HB U r A M e T O d l K ht N q w B S D g q' W z y x Y u;subst hn;contradiction
    obtain ⟨C,G⟩:=r.upd (t:=m.toks+(tupK c).draws (.tup v)) (o:=.dict (dictPut k (.tup v) b7)) e y (.inl (iD rfl (by (repeat intro _);contradiction) (by (repeat intro _);contradiction))) P
    exact M _ _ C G B
inductive TQ (B:Base) (h:vY):Flow->Fl->Prop where
 |next:TQ B h .next .next
 |brk:TQ B h .brk .brk
 |ret {v:eJ} {x:AV}:RV B h v x->TQ B h (.ret v) (.ret x)
noncomputable def CB (B:Base) (env:yX) (ns:gq) (st:AS) (s:eM) (Q:Fl->MM->AS->Prop) (f:Flow) (s':eM):Prop:=
 ∃fl m' st',TQ B s'.heap f fl/\FR B env ns m' st' s'/\R B st' s'/\xq B env ns st s st' s'/\Q fl m' st'
noncomputable def Ot (B:Base) (st:AS) (s:eM) (I:g0):Prop:=∀o,s.heap.get? I=some o->ik B st I
noncomputable def SS (B:Base) (n:Nat) (ns:gq) (c:zw) (code:CS):Prop:=∀(A:ji) (env:yX) (m:MM) (st:AS) (s:eM) (Q:Fl->MM->AS->Prop),
 mW n A->FR B env ns m st s->R B st s->VS PG (eF PG n) code m st Q->WE B A (exec c env) (CB B env ns st s Q) s
noncomputable def O9 (B:Base) (n:Nat) (ns:gq) (cs:List zw) (code:w_):Prop:=∀(A:ji) (env:yX) (m:MM) (st:AS) (s:eM) (Q:Fl->MM->AS->Prop),
 mW n A->FR B env ns m st s->R B st s->js PG (eF PG n) code m st Q->WE B A (execs cs env) (CB B env ns st s Q) s
noncomputable def SU (B:Base) (n:Nat) (ns:gq) (e:gg) (c:CE):Prop:=∀(A:ji) (env:yX) (m:MM) (st:AS) (s:eM) (Q:AV->AS->Prop) (P:Unit->eM->Prop) (u:eJ->N5 Unit),
 mW n A->FR B env ns m st s->R B st s->VE PG (eF PG n) c m st Q->
 (∀v x st' s',RV B s'.heap v x->R B st' s'->St B st s st' s'->Q x st'->WE B A (u v) (λ_ s''=>(∀b o,s'.heap.get? b=some o->Ot B st s b->¬ik B st' b->s''.heap.get? b=some o)/\
  ∀I s3,vl I s'' s3->Ot B st s I->¬ik B st' I->(∀o,s''.heap.get? I=some o->¬gc o)->P () s3) s')->
 WE B A (evalThenUse e env u) P s
variable {ag:Fl->MM->AS->Prop}
theorem CB.trans {f:Flow} (y:xq c aa r b m p ab) (F:FR c aa r e p ab) (k:CB c aa r p ab ag f aU):CB c aa r b m ag f aU:=
 oY k λh i j a l g d n=>(gE h i j a l g (y.trans F d) n)
theorem xq.but (a:xq c aa r b m p ab) (d:vl y ab aU) (h:m.heap.get? y=none):xq c aa r b m p aU:=
 ⟨λg o e f w=>d.keep g o (λz=>by clear a d f w;subst z;rw [h] at e;contradiction) (a.keep g o e f w),a.foot⟩
theorem O':O9 c a r [] .nil:=λA f m b s Q e F d h=>EF (gE .next m b .next F d .refl h)
variable {bR:List zw} {ah:w_}
theorem Md {n:zw} {l:CS} (B:SS c a r n l) (x:O9 c a r bR ah):O9 c a r (n::bR) (.cons l ah):=λA t m z s Q o F u h=>
 wpAny_execs_cons (er (B A t m z s _ o F u h) (λf v w=>oY w λC d j y b g k i=>by
  induction y with
  |next=>exact er (x A t d j v Q o b g i) (λ_ _ p=>p.trans k b) λ_ _ e=>e
  |brk=>exact gE .brk d j .brk b g k i
  |ret q=>exact (gE (.ret _) d j (.ret q) b g k i)) λ_ _ e=>e)
theorem Rt (l:SE c a r a0 g):SS c a r (.Return (some a0) ae) (.ret g):=λA n m j s Q k F b h=>
 wpAny_Return_some (f6 (l A n m j s _ k F b h) (λv p x f i o d e=>(gE (.ret x) m f (.ret i) (F.step b d) o d.toF e)))
theorem O_:SS c a r (.Return none ae) (.ret (.cst .none)):=λA f m b s Q e F d h=>wpAny_Return_none (gE (.ret .none) m b (.ret .none) F d .refl h)
theorem Ru:SS c a r (.Break ae) .brk:=λA f m b s Q e F d h=>wpAny_Break (gE .brk m b .brk F d .refl h)
variable {bg:w_}
theorem TR {b:List zw} (t:ST c a r a0 g) (v:O9 c a r bR ah) (q:O9 c a r b bg):SS c a r (.If a0 bR b ae) (.iff g ah bg):=λA j m u s Q i F f h=>
 wpAny_If (q6 (t A j m u s _ i F f h) (λa0 k o l d n=>by
  induction a0 with
  |true=>exact er (v A j m o k _ i (F.step f d) l n) (λ_ _ p=>p.trans d.toF (F.step f d)) λ_ _ e=>e
  |false=>exact er (q A j m o k _ i (F.step f d) l n) (λ_ _ p=>p.trans d.toF (F.step f d)) λ_ _ e=>e))
theorem TS (q:Iu a0=true) (e:SE c a r a0 g):SS c a r (.Expr a0 ae) (.ex g):=λA l m k s Q d F b h=>
 wpAny_Expr_any (f6 (e A l m k s _ d F b h) (λv p x j o n f i=>(gE .next m j .next (F.step b f) n f.toF i)))
  (by unfold interactive;rw [F.ok.kind];rfl) (by clear e d F b h;rcases a0 with ⟨⟩<;>first |rfl |contradiction)
theorem uK (h:xc a0=true) (a:yX) (x:eJ):Si a0 a x=pure x:=by
 rcases a0 with ⟨⟩<;>first |rfl |contradiction
noncomputable def TU (n:Nat) (it:It) (tg:List Nat) (b:w_) (Q:Fl->MM->AS->Prop) (xs:List AV):MM->AS->Prop:=
 xs.foldr (λx k m st=>it.ok st/\∃m',jI tg x m=some m'/\js PG (eF PG n) b m' st λfl m st=>(match fl with | .next=>k m st | .brk=>Q .next m st | .ret v=>Q (.ret v) m st))
 (λm st=>it.ok st/\Q .next m st)
theorem Hn (I:Nat->eM->Prop) (o:∀n m,I n m->WE c L (Vf J) (λr i=>match r with |none=>bJ (.ok .next) i |some v=>WE c L (rV a0 J v) (λ_ j=>WE c L (x_ a0 aa v) (λ_ p=>WE c L (execs bR aa) (λf g=>match f with | .next | .cont=>∃l,l<n/\I l g | .brk=>bJ (.ok .next) g | .ret v=>bJ (.ok (.ret v)) g) p) j) i) m) (n:Nat) (h:I n m):sv (hX c.prog c.w) L (.forLoop a0 J bR [] aa) bJ m:=by
 refine codeAny_loop' rfl I (λn m k=>?_) n h
 show gf _ _ ((forTurn a0 J bR [] aa).onRaise (λx=>do SR x aa;UA x)) _ _ m
 refine Y2 ?_
 simp only [forTurn]
 refine b5 (mR (b5 (wpAny_onRaise (er (o n m k) (λr i e=>?_) λ_ _ a=>a.elim))))
 clear o h k;induction r using d_ with
 |none=>exact dk (.inr ⟨rfl,codeAny_block (EF e)⟩)
 |some v=>
  refine b5 (er e (λ_ j b=>?_) λ_ _ a=>a.elim)
  refine b5 (er b (λ_ j b=>b5 (er b (λf p d=>?_) λ_ _ a=>a.elim)) λ_ _ a=>a.elim)
  clear e b;clear b;induction f using Flow.casesOn with
  |next=>exact dk (.inl ⟨rfl,d⟩)
  |cont=>exact dk (.inl ⟨rfl,d⟩)
  |brk=>exact dk d
  |ret v=>exact dk d
variable {dq:List h}
theorem drop_cons (c:dq[a]? =some dn):dq.drop a=dn::dq.drop (a+1):=by
 obtain ⟨b,rfl⟩:=ey.mp c
 exact fR b
theorem xq.Rv (a:xq c aa r b m p ab) (d:vl y ab aU) (h:∀o,m.heap.get? y=some o->¬ik c b y->False):xq c aa r b m p aU:=
 ⟨λg o e f w=>d.keep g o (λz=>by clear a d w;subst z;exact h o e f) (a.keep g o e f w),a.foot⟩
theorem FR.Fj (F:FR c aa r e b m) (h:m.heap.get? y=none):aa.locals≠y/\(∀x a,aa.cells.lookup x=some a->a≠y)/\¬Own r aa y:=by
 have g:aa.locals≠y:=λq=>by
  refine w' F.Ax λf o _ _ k _=>?_
  rw [q,h] at k;contradiction
 have i:∀x a,aa.cells.lookup x=some a->a≠y:=λx a d q=>by
  refine oO (F.BV x a d) λ_ _ v o j _=>?_
  rw [q,h] at j;contradiction
 exact iD g i (λw=>w.elim (λq=>g q.symm) λl=>eS l λx _ d=>i x y d rfl)
theorem Ot.Fj (F:FR c aa r e b m) (h:Ot c b m y):aa.locals≠y/\(∀x a,aa.cells.lookup x=some a->a≠y)/\¬Own r aa y:=by
 have g:aa.locals≠y:=λq=>by
  refine w' F.Ax λf o _ _ l _=>?_
  exact F.Cw.1 (by rw [q];exact h o (q▸l))
 have i:∀x a,aa.cells.lookup x=some a->a≠y:=λx a d q=>by
  refine oO (F.BV x a d) λk _ v o j _=>?_
  exact k (by rw [q];exact h o (q▸j))
 exact iD g i (λw=>w.elim (λq=>g q.symm) λn=>eS n λx _ d=>i x y d rfl)
theorem Ot.h0 (r:R c b m) (h:Ot c b m y):c.h₀.get? y=none:=by
 induction e:c.h₀.get? y with
 |none=>rfl
 |some o=>rw [r.new y (h o (r.old y o e))] at e;contradiction
theorem Ot.of (a:St c b m p ab) (h:ab.heap.get? y=none):Ot c b m y:=λo e=>gj λd=>by rw [a.keep _ _ e d] at h;contradiction
theorem Rw (HB:gX c) (ht:An r a0=some C) (hc:xc aH=true) (hi:SE c a r aH g) (hb:O9 c a r bR ah):
 SS c a r (.For a0 aH bR [] ae) (.kj C g ah):=λkz p m st s Q y F ku h=>by
 refine wpAny_For (f6 (hi kz p m st s _ y F ku h) (λv lj x kH qv t S kO=>?_)) (uK hc p)
 refine er (wd HB t qv kO) (λiv lh j=>?_) λ_ _ e=>e.elim
 refine oY j λI L b e O J kJ kK=>?_
 subst e
 have V:=F.step ku S
 refine mT (V.Fj J) λW kq kN=>?_
 have kQ:¬ik c kH I:=λf=>by refine eS (t.oH f) λo e _=>?_;rw [J] at e;contradiction
 have kB:c.h₀.get? I=none:=by
  induction e:c.h₀.get? I using d_ with
  |none=>rfl
  |some o=>rw [t.old I o e] at J;contradiction
 have kl:∀o,s.heap.get? I=some o->¬ik c st I->False:=λo e f=>by rw [S.keep I o e f] at J;contradiction
 refine Hn (c:=c) (L:=kz) (aa:=p) (λk u=>∃aH M d,k=b.length -aH/\FR c p r M d u/\R c d u/\xq c p r st s d u/\wM c u.heap I L b aH/\¬ik c d I/\TU a L C ah Q (b.drop aH) M d)
  ?_ b.length ⟨0,m,kH,rfl,(V.step t (.grow O)),(t.grow O),(S.trans (.grow O)).toF,kJ,kQ,kK⟩
 intro k u kG;refine ER k kG λaH M d F' z y' N E G=>?_
 have H:∀o,u.heap.get? I=some o->¬gc o:=λo e=>by refine eS N.nf λo' e' nf=>?_;rw [e] at e';obtain rfl:=d5 e';exact nf
 induction D:b[aH]? using d_ with
 |none=>
  rw [pI (by simpa using D)] at G
  refine iP G λP n=>?_
  refine er (N.done z P y.handled D) (λkZ lg j=>?_) λ_ _ e=>e
  refine iP j λe i=>?_
  subst e
  exact gE .next M d .next (F'.but i W kq H) (z.but i E kB H) (y'.Rv i kl) n
 |some x=>
  rw [drop_cons D] at G
  refine iP G λP n=>?_
  refine er (N.next z P D) (λkZ lg j=>?_) λ_ _ e=>e
  refine r7 j λw e i kF qw=>?_
  subst e
  have U:=F'.but i W kq H
  have kP:=z.but i E kB H
  have kM:=y'.Rv i kl
  refine zc kF a0 w ?_
  refine eS n λkY kD n=>?_
  refine DF U kP y.handled ht kD qw λkC X kI ky=>?_
  refine er (hb kz p kY d kC _ y X kI n) (λf kW j=>?_) λ_ _ e=>e
  refine oY j λfl km kn kV T Y K kx=>?_
  have Z:=(kM.trans U ky).trans X K
  clear HB ht hc hi hb y F ku h qv t S kO O J kJ kK V W kq kQ kB kl kG F' z y' N H G P i qw kM kD n j;induction kV using TQ.casesOn with
  |next=>
   have kT:wM c kC.heap I L b (aH+1):=kF.mono (ky.frozen kP U) λo e=>ky.keep I o e E kN
   have kU:wM c kW.heap I L b (aH+1):=kT.mono (K.frozen kI X) λo e=>K.keep I o e E kN
   have kX:=(ey.mp D).1
   refine ⟨(b.length - (aH+1)),(by exact i8 kX (fJ _)),(aH+1),km,kn,rfl,T,Y,Z,kU,(λf=>(K.foot I f).elim E λl=>?_),kx⟩
   refine eS kT.nf λo e _=>?_
   rw [l] at e;contradiction
  |brk=>exact gE .next km kn .next T Y Z kx
  |ret q=>exact gE (.ret _) km kn (.ret q) T Y Z kx
theorem DG (I:Nat->eM->Prop) (k:∀n m,I n m->WE c L (Aa a0 aa (vW a0 aa)) (λb d=>if b then WE c L (execs bR aa) (λf g=>match f with | .next | .cont=>∃i,i<n/\I i g | .brk=>bJ (.ok .next) g | .ret v=>bJ (.ok (.ret v)) g) d else bJ (.ok .next) d) m) (n:Nat) (h:I n m):sv (hX c.prog c.w) L (.whileLoop a0 bR [] aa) bJ m:=by
 refine codeAny_whileLoop I (λn m j=>er (k n m j) (λb d a=>?_) λ_ _ e=>e.elim) n h
 induction b with
 |false=>simp only [fY,if_false] at a⊢;exact EF a
 |true=>simp only [if_true] at a⊢;exact er a (λ_ _ q=>q) λ_ _ e=>e.elim
theorem Me (T:ST c a r a0 g) (O:O9 c a r bR ah):SS c a r (.While a0 bR [] ae) (.EY g ah):=λH j m b s Q z F L h=>by
 refine kf h λk h=>?_
 refine wpAny_While ?_
 refine DG (c:=c) (L:=H) (aa:=j) (λk l=>∃i d,FR c j r i d l/\R c d l/\xq c j r b s d l/\
  N7 (motive:=λ_=>MM->AS->Prop) (λ_ _=>False)
   (λ_ k m b=>VT PG (eF PG a) g (VE PG (eF PG a) g) m b λa0 b=>if a0 then js PG (eF PG a) ah m b λM m b=>(match M with | .next=>k m b | .brk=>Q .next m b | .ret v=>Q (.ret v) m b) else Q .next m b) k i d)
  ?_ k (pk m b F L .refl h)
 intro k l S;refine nZ S λi d o G K u=>?_
 clear F L h S;induction k using ja with
 |zero=>exact u.elim
 |succ k=>
  refine q6 (T H j i d l _ z o G u) (λa0 V P D I E=>?_)
  have n:=o.step G I
  have x:=K.trans o I.toF
  induction a0 with
  |false=>exact gE .next i P .next n D x E
  |true=>
   refine er (O H j i P V _ z n D E) (λf X N=>?_) λ_ _ e=>e
   refine oY N λM C p W w J U y=>?_
   have t:=x.trans n U
   clear T O z o G K u D I n x E N U;induction W with
   |next=>exact ⟨k,(fJ _),C,p,w,J,t,y⟩
   |brk=>exact gE .next C p .next w J t y
   |ret q=>exact gE (.ret _) C p (.ret q) w J t y
noncomputable def DH (e:gg):Bool:=e.ctorIdx==8
noncomputable def notName (e:gg):Bool:=!(e.ctorIdx==23)
theorem p5 (b:xc a0=true) (c:notName aH=true) (a:Nat):vB a0 (some aH) a aa=pure false:=by
 rcases a0 with ⟨⟩<;>first |rfl |contradiction |(cases aH<;>first |rfl |contradiction)
theorem Ho (f:xc a0=true) (x:j9) (p:Eu) (a:Nat):vB a0 (some (.Name x p)) a aa=pure false\/(DH a0=true/\vB a0 (some (.Name x p)) a aa=pure true):=by
 induction a0 using ui with
 |ListComp e g c d=>
  induction b:(aa.blockKind==.function&&aa.kindOf x==some .local&&p.line==d.line&&!(c.names.any λ(n,k)=>n==x&&(k==.local||k==.cell))) using j7 with
  |false=>exact .inl (by unfold vB;exact congrArg pure b)
  |true=>exact .inr ⟨rfl,by unfold vB;exact congrArg pure b⟩
 |SetComp=>contradiction
 |DictComp=>contradiction
 |_=>exact .inl rfl
theorem Rx (H:ot r ao=some d) (U:xc a0=true) (S:SE c a r a0 g) (J:DH a0=true->SU c a r a0 g):SS c a r (.Assign [.Name ao ae] a0 b9) (.asg d g):=λA i m j s Q E F f h=>by
 rcases Ho (aa:=i) U ao ae b9.line with u |⟨M,u⟩
 .refine wpAny_Assign_Name (f6 (S A i m j s _ E F f h) (λv N y x B t k w=>?_)) u
  have e:=F.step f k
  exact pT e t H B λT n D l=>gE .next _ x .next n D (k.toF.trans e l) w
 .rw [exec_Assign_Name_used _ _ _ _ u]
  refine b5 (mR (b5 ?_))
  refine er (J M A i m j s (λv j=>Q .next (m.set d (some v)) j) (λ_ P=>CB c i r j s Q .next P) (x_ (.Name ao ae) i) E F f h ?_) (λ_ _ q=>dk q) λ_ _ a0=>a0
  intro v y x N B t k w
  have e:=F.step f k
  refine UT (pT e t H B λT n D l=>⟨λb o a0 O p=>l.keep b o a0 p (O.Fj F).2.2,λI V z C R G=>?_⟩)
  refine mT (C.Fj F) λL K _=>?_
  exact gE .next _ x .next (n.but z L K G) (D.but z R (C.h0 f) G) ((k.toF.trans e l).Rv z (λo a0 p=>p (C o a0))) w
theorem JX:∀{l:List Nat} {a:List AV} {i:Nat} {x:AV},i∉l->pJ (e.set i (some x)) l a=(pJ e l a).set i (some x):=by
 intro l
 induction l generalizing e with
 |nil=>intro a i x _;rfl
 |cons j l d=>
  intro a i x c
  induction a using el with
  |nil=>rfl
  |cons y b=>
   have f:i≠j:=λg=>c (g▸.head _)
   show pJ ((e.set i (some x)).set j (some y)) l b=(pJ (e.set j (some y)) l b).set i (some x)
   rw [List.set_comm _ _ f,d λh=>c (.tail _ h)]
theorem DI:∀{l c:List Nat} {a b:List AV},l.length=a.length->pJ e (l++c) (a++b)=pJ (pJ e l a) c b:=by
 intro l
 induction l generalizing e with
 |nil=>intro c a b h;induction a using el with
  |nil=>rfl
  |cons _ _=>contradiction
 |cons j l d=>intro c a b h;induction a using el with
  |nil=>contradiction
  |cons x a=>exact d (by simpa using h)
theorem JY:∀{l:List Nat} {a:List AV},l.length=a.length->l.Nodup->pJ e l.reverse a.reverse=pJ e l a:=by
 intro l
 induction l generalizing e with
 |nil=>intro a h _;induction a using el with
  |nil=>rfl
  |cons _ _=>contradiction
 |cons j l d=>
  intro a h b
  induction a using el with
  |nil=>contradiction
  |cons x a=>
   rw [eU] at b
   have c:l.length=a.length:=by simpa using h
   rw [nM,nM,DI (by simp [c]),d c b.2]
   show (pJ e l a).set j (some x)=pJ (e.set j (some x)) l a
   rw [JX b.1]
theorem JZ:∀{k:List j9} {l:List Nat} {d:List eJ} {a:List AV} {m:MM} {s:eM},k.map (ot r)=l.map some->FR c aa r m b s->R c b s->h_ c s.heap d a->a.length=l.length->
 ∀{Q:Unit->eM->Prop},(∀f,FR c aa r (pJ m l a) b f->R c b f->xq c aa r b s b f->Q () f)->WE c L (ru (k.map λx=>Vi aa x) d) Q s:=by
 intro D
 induction D with
 |nil=>
  intro l d a m s e F g q j Q h
  have:l=[]:=by simpa using e.symm
  clear e;subst this
  have:a=[]:=gW.mp j
  clear j;subst this;cases q
  exact dk (h s F g .refl)
 |cons x k B=>
  intro l d a m s e F g q j Q h
  induction l using el with
  |nil=>simp at e
  |cons i l=>
   simp only [eI,iA] at e
   induction a using el with
   |nil=>contradiction
   |cons y a=>
    cases q with
    | @cons v _ d _ t w=>
     show WE c L (do yT d (Vi aa x v);ru (k.map λx=>Vi aa x) d) Q s
     refine b5 (f7 (bindName_ (pT F g e.1 t λf o p n=>?_)))
     exact B e.2 o p (w.AE g F n) (by simpa using j) λu A C z=>h u A C (n.trans o z)
theorem h_.reverse (r:h_ c H aj l):h_ c H aj.reverse l.reverse:=r.rev
theorem BZ {f:h->Option v}:∀{l:List h},(l.filterMap f).length<=l.length/\((l.filterMap f).length=l.length->l.map f=(l.filterMap f).map some):=by
 intro j
 induction j with
 |nil=>
  exact ⟨eK _,λ_=>rfl⟩
 |cons a l i=>
  refine iP i λd g=>?_
  induction e:f a with
  |none=>
   rw [qU,e]
   refine ⟨f5 d,λc=>?_⟩
   have:(l.filterMap f).length=l.length+1:=c
   exact absurd d (ya.mpr (EU (fJ _) this))
  |some b=>
   rw [qU,e]
   refine ⟨fi d,λc=>?_⟩
   have c:(l.filterMap f).length=l.length:=by simpa using c
   rw [eI,eI,e,g c]
theorem Mf {f:gg->Option j9} (c:∀t z,f t=some z->EZ t=some z) (d:(az.filterMap f).length=az.length):az.map EZ=(az.filterMap f).map some:=by
 have:=(BZ (l:=az)).2 d
 rw [<-this]
 apply fo
 intro t e
 have a:f t∈az.map f:=ck.mpr (ei t e rfl)
 rw [this] at a
 refine eS (ck.mp a) λz _ b=>?_
 rw [<-b]
 exact c t z b.symm
theorem vP (g:E0 (.Tuple az a ae) a0=true):
 rt [.Tuple az a ae] a0 aa=pure none\/∃b,rt [.Tuple az a ae] a0 aa=pure (some b)/\b.length=az.length/\az.map EZ=b.map some:=by
 have q:∀c j h,a0= .Tuple c j h->rt [.Tuple az a ae] a0 aa=pure none\/∃b,rt [.Tuple az a ae] a0 aa=pure (some b)/\b.length=az.length/\az.map EZ=b.map some:=by
  intro c j h o;subst o
  have f:(c.any λa0=>!GW 8 a0)=true:=g
  have k:c.all (GW 8)=false:=by
   rw [EK,jP,oz]
   refine eS (oz.mp f) λx s p=>?_
   exact ei x s p
  unfold rt
  dsimp only
  split
  .exact .inl rfl
  .split
   .exact .inl rfl
   .rename_i m n
    generalize i:vL _ az=b
    split
    .exact .inl rfl
    .split
     .exact .inl rfl
     .rename_i e r
      rw [k]
      have d:b.length=az.length:=by
       simp only [j4,bne_iff_ne,ne_eq,not_or,Xc] at e
       exact e.1
      refine .inr (gp b rfl d ?_)
      rw [<-i] at d⊢
      refine Mf (λt z l=>?_) d
      clear i d m n e r f k
      rcases t with ⟨⟩<;>first |contradiction |skip
      exact (Ly l).2▸rfl
 clear g;rcases a0 with ⟨⟩<;>first |exact q _ _ _ rfl |exact .inl rfl
theorem Fm:∀{c:List gg} {l:List Nat} {a:List j9},uC r c=some l->c.map EZ=a.map some->a.map (ot r)=l.map some:=by
 intro m
 induction m with
 |nil=>
  intro l a h b
  (injection h with h;subst h)
  have:a=[]:=by simpa using b.symm
  clear b;subst this;rfl
 |cons e n k=>
  intro l a h b
  obtain ⟨x,p,i,q,d,j,rfl,rfl⟩:=tj h
  induction a using el with
  |nil=>simp at b
  |cons y o=>
   injection b with f g
   exact congr (congrArg Of (d5 f▸d)) (k j g)
theorem Fn (a:S4 m.heap.objs.size m.heap H):fI m {m with heap:=H}:=qB λb o e=>a b o (λz=>by subst z;rw [iq] at e;contradiction) e
theorem Pa (G:uC r az=some C) (z:2<=C.length) (U:C.Nodup) (N:E0 (.Tuple az d ae) a0=true) (R:xc a0=true) (P:SE c a r a0 g):
 SS c a r (.Assign [.Tuple az d ae] a0 b9) (.td C g):=λA i m st s Q x F o h=>by
 have I:Wf [.Tuple az d ae] a0 b9.line i=pure false:=show vB a0 (some (.Tuple az d ae)) b9.line i=pure false from p5 R rfl _
 have kl:=CA G
 have u:=P A i m st s _ x F o h
 rcases vP (aa:=i) N with f |⟨V,f,hl,kx⟩
 .refine W8 (er u (λv kn K=>?_) λ_ _ a0=>a0) I f
  obtain ⟨y,D,E,j,e,b⟩:=K
  obtain ⟨w,M,rfl,k,b⟩:=b
  .·refine DF (F.step o e) j x.handled (a0:=.Tuple az d ae) (C:=C) ?_ k E λW n X Z=>gE .next M D .next n X (e.toF.trans (F.step o e) Z) b.2
    show (uC r az).bind _=_;rw [G];exact if_pos z
 .refine Assign_Tuple_swapped (er u (λv kn K=>?_) λ_ _ a0=>a0) I f
  obtain ⟨y,D,E,j,e,b⟩:=K
  refine jU b λw M J k b=>?_;subst J
  .·refine gi (we z k) λkz B H J=>?_;subst J
    clear z N R P h I u k;(injection B with B;subst B)
    refine g6 v (iG E) λky O k' T kB q=>?_
    have hz:O.size=w.length:=by rw [<-q.length,eD]
    have ku:V.length=O.size:=by rw [hl,hz,H,kl]
    rw [ku]
    refine unpackItems_tuple x.handled (tc _ T rfl _ rfl) λh' f=>?_
    have p:=Fn f
    have S:=F.step o e
    have n:=S.step j (.grow p)
    have Y:=Fm G kx
    refine JZ (l:=C.reverse) (a:=w.reverse) (by rw [qd,qd,Y]) n (j.grow p) (q.grow p).reverse (by simpa using H) λW L km kq=>?_
    rw [JY (by simpa using H.symm) U] at L
    exact gE .next _ D .next L km ((e.trans (.grow p)).toF.trans n kq) b.2
theorem Pb (x:gX c) (G:AT[d]? =some ao) (K:xc aH=true) (I:SE c a r aH D) (C:SE c a r a0 g):
 SS c a r (.Assign [.Attribute a0 ao ae] aH b9) (.iE g d D):=λA j m H s Q i F b h=>
 plainObj_wpAny_Assign_Attribute (f6 (I A j m H s _ i F b h) (λv q y B E k l w=>f6 (C A j m B q _ i (F.step b l) k w) (λN O z L u J n e=>by
  induction e with
  |mk o e=>
   obtain rfl:=gP u
   refine uH x J o G (E.step k n) λM p t=>?_
   have f:=(l.trans n).trans t
   exact (gE .next m _ .next (F.step b f) p f.toF e)))) (p5 K rfl _)
theorem zd (h:WE c L (vW a0 aa) (λa b=>WE c L (setAttr a ao J) bq b) m):WE c L (x_ (.Attribute a0 ao ae) aa J) bq m:=by
 rw [assign_Attribute]
 refine b5 (f7 (er h (λa b f=>b5 (mR (b5 (f7 (er f (λ_ g d=>wpAny_release d) λ_ _ e=>e))))) λ_ _ e=>e))
theorem Mg (k:gX c) (E:AT[d]? =some ao) (O:AT[o]? =some cE) (L:E0 (.Tuple [.Attribute a0 ao ae,.Attribute aH cE b9] I cH) aX=true) (T:xc aX=true) (S:SE c a r aX aL) (R:SE c a r a0 g) (C:SE c a r aH D):
 SS c a r (.Assign [.Tuple [.Attribute a0 ao ae,.Attribute aH cE b9] I cH] aX cW) (.EX g d D o aL):=λA b m st s Q f F i h=>by
 have J:Wf [.Tuple [.Attribute a0 ao ae,.Attribute aH cE b9] I cH] aX cW.line b=pure false:=show vB aX (some (.Tuple [.Attribute a0 ao ae,.Attribute aH cE b9] I cH)) cW.line b=pure false from p5 T rfl _
 have e:rt [.Tuple [.Attribute a0 ao ae,.Attribute aH cE b9] I cH] aX b=pure none:=by
  rcases vP (aa:=b) L with e |⟨kq,e,hl,kz⟩
  .exact e
  .clear k E O L T S R C f F i h J e;induction kq using el with
   |nil=>contradiction
   |cons y ys=>(injection kz;contradiction)
 refine W8 (f6 (S A b m st s _ f F i h) (λv kI y kn qv km kB x=>?_)) J e
 obtain ⟨v1,v2,rfl,x⟩:=x
 .refine g6 v (iG qv) λt ky k' eo kJ q=>?_
  have hz:ky.size=2:=by rw [<-eD,q.length];rfl
  refine QV f.handled (tc _ eo rfl _ rfl) (by rw [hz];rfl) rfl λh' e=>?_
  have B:=Fn e
  have u:=km.grow B
  have q':=q.grow B
  refine jU q'.two λZ p e' X Y=>?_
  rw [e']
  have N:=kB.trans (ED B)
  have W:=F.step i N
  show WE c A (do yT [p] (x_ (.Attribute a0 ao ae) b Z);ru [x_ (.Attribute aH cE b9) b] [p]) _ _
  refine b5 (f7 (zd (f6 (R A b m kn _ _ f W u x) (λov kF z kG j G l w=>?_))))
  induction w using xb.casesOn with
  |mk e1 w=>
   obtain rfl:=gP j
   refine uH k G e1 E (X.step u l) λkx K M=>?_
   show WE c A (do yT [] (x_ (.Attribute aH cE b9) b p);ru [] []) _ _
   have U:=(N.trans l).trans M
   refine b5 (f7 (zd (f6 (C A b m _ kx _ f (F.step i U) K w) (λov kC z kH j ku P n=>?_))))
   induction n using xb.casesOn with
   |mk e2 n=>
    obtain rfl:=gP j
    refine uH k ku e2 O (((Y.step u l).step G M).step K P) λkD kl V=>?_
    have H:=(U.trans P).trans V
    exact dk (gE .next m _ .next (F.step i H) kl H.toF n)
theorem Pc (K:gX c) (R:xc aX=true) (O:SE c a r aX aL) (M:SE c a r a0 g) (w:SE c a r aH D):
 SS c a r (.Assign [.Subscript a0 aH ae] aX b9) (.ua g D aL):=λA f m i s G d F b h=>
 K4 (f6 (O A f m i s _ d F b h) (λv x y L N o j I=>f6 (M A f m L x _ d (F.step b j) o I) (λY P z p E k l B=>
  f6 (w A f m p P _ d (F.step b (j.trans l)) k B) (λT W u V C t e J=>by
   refine Fi K d t (Q:=λi=>G .next m i) (E.step k e) C ((N.step o l).step k e) J λX U q H S=>?_
   have n:=((j.trans l).trans e).trans H
   exact (gE .next m _ .next (F.step b n) q n.toF S))))) (p5 R rfl _)
variable {cY:CE}
theorem Pd {e:gg} (hc:xc e=true) (he:SE c a r e cY) (ho:SE c a r a0 g) (hl:SE c a r aH D) (hu:SE c a r aX aL):
 SS c a r (.Assign [.Subscript a0 (.Slice (some aH) (some aX) none b9) ae] e cH) (.Lz g D aL cY):=λA o m st s Q j F i h=>
 K4 (f6 (he A o m st s _ j F i h) (λv kD y kx X U l km=>f6 (ho A o m kx kD _ j (F.step i l) U km) (λov ky z kB T Y q kl=>
  Oz (f6 (hl A o m kB ky _ j (F.step i (l.trans q)) Y kl) (λlv kG x3 kq ql I J V=>f6 (hu A o m kq kG _ j (F.step i ((l.trans q).trans J)) I V) (λuv R x4 kI qu Z M kz=>by
   rw [Js]
   refine dk ?_
   have N:=jA R {cls:=.type "slice",data:=.fields #[lv,uv,.none]}
   have p:=Z.grow N
   have P:=(((l.trans q).trans J).trans M).trans (ED N)
   clear he ho hl hu j h U l km Y q kl J V Z N;induction kz using Rf.casesOn with
   | @mk ra rb u n d kF G eb O W E C B h6=>
    obtain rfl:=gP T
    obtain rfl:=gP X
    obtain ⟨kH,rfl⟩:=gr (ql.step I M)
    obtain ⟨t',rfl⟩:=gr qu
    refine gv (p.isList G) λb k K x l1 _ H=>?_
    refine gv (p.isList eb) λw k' g2 S l2 _ kn=>?_
    refine AF K g2 O (tL ..) W E (by exact Vv C H) (by exact ad B H kn) ?_
    have e0:(b.extract 0 u.toNat++w++b.extract n.toNat b.size).toList=b.toList.take u.toNat++w.toList++b.toList.drop n.toNat:=by
     clear hc F i I M G eb O W E C B h6 T X ql qu p P K x l1 H g2 S l2 kn;obtain ⟨L⟩:=b
     obtain ⟨L'⟩:=w
     simp [List.extract,ni]
    obtain ⟨kC,ku⟩:=p.zV (t:=(R.toks)) (f:=λd=>d.extract 0 u.toNat++w++d.extract n.toNat d.size) G K (ys:=d.take u.toNat++kF++d.drop n.toNat) (by
     rw [e0];exact ((x.take _).append S).append (x.drop _)) (by simp only [bh,fT,eA];exact Wy (Lg E) C B)
    have y':=P.trans ku
    exact (gE .next m _ .next (F.step i y') kC y'.toF h6))))))) (p5 hc rfl _)
theorem jW (a:(r.map (·.1)).Nodup) {k:vD}:ic r ao=some k↔(ao,k)∈r:=by
 induction r with
 |nil=>exact ⟨(by intros;contradiction),(by intros;contradiction)⟩
 |cons p d b=>
  obtain ⟨y,j⟩:=p
  rw [eI,eU] at a
  rw [ti]
  by_cases h:ao=y
  .subst h
   rw [if_pos rfl]
   simp only [jO,eL,BM,true_and]
   exact ⟨λe=>.inl e.symm,λe=>e.elim rK λc=>absurd (ck.mpr (ei _ c rfl)) a.1⟩
  .rw [if_neg h,b a.2]
   simp [h]
theorem B1:th=("__classdict__":j9):=by unfold th;decide+kernel
variable {aJ:Es}
theorem q9 (h:Ap aJ=true):aJ.kind= .function/\aJ.isGenerator=false/\aJ.isCoroutine=false/\(aJ.names.map (·.1)).Nodup/\aJ.names.lookup ("__classdict__":j9)=none:=by
 unfold Ap at h
 simp only [eW,decide_eq_true_eq,fN] at h
 refine iP h λa f=>?_;refine iP a λa b=>?_;refine iP a λa i=>?_;refine iP a λc d=>?_
 refine ⟨c,d,i,b,?_⟩
 rw [<-sD]
 induction e:ic aJ.names ("__classdict__":j9) with
 |none=>rfl
 |some k=>
  have g:=(jW b).mp e
  have:th∈aJ.names.map (·.1):=(ck.mpr (ei _ g B1.symm))
  exact absurd this (of_decide_eq_false f)
theorem DJ (h:Du aJ=true):Ap aJ=true/\BR aJ.names=false:=by
 unfold Du at h
 rw [eW,fN] at h;exact h
theorem uL:∀{b:gq},q5 r b=true->∀x,(x,fE)∈b->ic r x=some .cell\/ic r x=some .free:=by
 intro b h x a
 induction b with
 |nil=>exact (eg a).elim
 |cons p d c=>
  obtain ⟨y,k⟩:=p
  change (_&&q5 r d)=true at h
  rw [eW] at h
  rcases eL.mp a with e |a
  .clear a;cases (e)
   have h:(match ic r x with |some .cell=>true |some .free=>true |_=>false)=true:=h.1
   induction q:ic r x with
   |none=>rw [q] at h;contradiction
   |some k=>rw [q] at h;induction k using Ia with
    |cell=>exact .inl rfl
    |free=>exact .inr rfl
    |_=>contradiction
  .exact c h.2 a
noncomputable def qD (cells:List (j9×g0)):gq->List (j9×g0)->List (j9×g0)
 |[],acc=>acc
 |(x,k)::r,acc=>if k= .free then qD cells r ((x,(cells.lookup x).getD 0)::acc) else qD cells r acc
variable {cp:List (j9×g0)}
theorem tq:∀{g:gq} {c:List (j9×g0)} {b:j9},((b,fE)∈g->(qD cp g c).lookup b=some ((cp.lookup b).getD 0))/\((b,fE)∉g->(qD cp g c).lookup b=c.lookup b):=by
 intro o
 induction o with
 |nil=>
  intro c b
  exact ⟨λh=>(nomatch h),λ_=>rfl⟩
 |cons n r j=>
  intro c b
  obtain ⟨y,k⟩:=n
  by_cases l:k= .free
  .subst l
   rw [qD,if_pos rfl]
   refine iP (j (c:=(y,(cp.lookup y).getD 0)::c) (b:=b)) λf d=>?_
   refine ⟨λa=>?_,λa=>?_⟩
   .by_cases i:(b,fE)∈r
    .exact f i
    .rw [d i]
     rcases eL.mp a with e |a
     .clear j f d a i;(injection e with e;subst e);simp
     .exact absurd a i
   .have m:b≠y:=λe=>a (by rw [e];exact .head _)
    rw [d λq=>a (.tail _ q),eN,beq_false_of_ne m]
  .rw [qD,if_neg l]
   refine iP (j (c:=c) (b:=b)) λf d=>?_
   refine ⟨λa=>f ?_,λa=>d λq=>a (.tail _ q)⟩
   rcases eL.mp a with e |a
   .clear j f d a;cases (e);exact absurd rfl l
   .exact a
theorem Mh:∀{d:gq} {a:List (j9×g0)},(∀x,(x,fE)∈d->∃c,aa.cells.lookup x=some c)->
 (forIn d a λ(p:j9×vD) (cs:List (j9×g0))=>if (p.2==fE)=true then (do let c <-Zg aa p.1;pure (iU ((p.1,c)::cs))) else pure (iU cs):N5 (List (j9×g0)))=pure (qD aa.cells d a):=by
 intro l
 induction l with
 |nil=>
  intro a _
  exact rfl
 |cons j r g=>
  intro a h
  obtain ⟨x,k⟩:=j
  rw [qM]
  by_cases f:k= .free
  .subst f
   obtain ⟨c,i⟩:=h x (.head _)
   have e:Zg aa x=pure c:=by unfold Zg;rw [i]
   simp only [beq_self_eq_true,if_true,e,pure_bind]
   rw [g λy b=>h y (.tail _ b),qD,if_pos rfl,i];rfl
  .have:(k==fE)=false:=by simpa using f
   simp only [this,fY,if_false,pure_bind]
   rw [g λy b=>h y (.tail _ b),qD,if_neg f]
theorem vQ (h:∀x,(x,fE)∈aJ.names->∃c,aa.cells.lookup x=some c):GX aJ aa=pure (qD aa.cells aJ.names []):=by
 have e:=Mh (a:=[]) h
 unfold GX
 simp only [bind_pure]
 first
  |exact e
  |(rw [<-e];congr 1)
structure Made (ms:gq) (cl:List (j9×g0)) (s:eM) (L:g0) (cells:List (j9×g0)) (s':eM):Prop where
 grow:fI s s'
 fresh:s.heap.get? L=none
 Ax:s'.heap.Ns L (λ_=>none)
 old:∀x,(x,f9)∉ms->cells.lookup x=cl.lookup x
 own:∀x,(x,f9)∈ms->∃c,cells.lookup x=some c/\s.heap.get? c=none/\c≠L/\s'.heap.IsCell c none
 apart:∀x y c,(x,f9)∈ms->(y,f9)∈ms->cells.lookup x=some c->cells.lookup y=some c->x=y
theorem get?_none_of_le (a:H.objs.size<=y):H.get? y=none:=by
 induction e:H.get? y with
 |none=>rfl
 |some o=>exact absurd (rv e) (i6.mpr a)
theorem AG {V:List (j9×eJ)} {U:Option g0} {B:Option yX} {Q:yX->eM->Prop} (O:(aJ.names.map (·.1)).Nodup) (h:∀I n d,Made aJ.names cp m I n d->WE c L (forIn V BN λ(x:j9×eJ) (_:PUnit)=>do SP (vV aJ I y n ao U J B aW) x.1 x.2;pure (iU BN)) (λ_ Y=>Q (vV aJ I y n ao U J B aW) Y) d):
 WE c L (GU aJ y cp V ao U J B aW) Q m:=by
 unfold GU
 refine b5 (Y4 ?_)
 generalize W:(if B.isSome=true then "dict" else "frame")=T
 have P:m.heap.get? m.heap.objs.size=none:=iq _
 generalize w:({m with heap:=m.heap.push {cls:=.type T,data:=.dict #[]}}:eM)=E
 have R:fI m E:=by rw [<-w];exact jA _ _
 have N:E.heap.Ns m.heap.objs.size (λ_=>none):=by rw [<-w];exact Heap.Ns.new ..
 have u:E.heap.objs.size=m.heap.objs.size+1:=by rw [<-w];exact rH ..
 refine b5 ?_
 refine qR _
  (λX n d=>∃done,aJ.names=done++X/\Made done cp m m.heap.objs.size n d/\E.heap.objs.size<=d.heap.objs.size/\∀x g,(x,f9)∈done->n.lookup x=some g->g<d.heap.objs.size) _ ?_ ?_ _ _
  (qW [] rfl ⟨R,P,N,λ_ _=>rfl,(by intros;contradiction),(by intros;contradiction)⟩ (eK _) (by intros;contradiction))
 .intro kl X n d Z;obtain ⟨x,k⟩:=kl;refine r7 Z λdone l M r s=>?_
  have S:=O
  rw [l,b_,eQ] at S
  have kn:∀j,(x,j)∉done:=λj hj=>S.2.2 x (ck.mpr (ei _ hj rfl)) x (by simp) rfl
  clear O h W P w R N S kn;clear Z;by_cases t:k= .cell
  .subst t
   simp only [beq_self_eq_true,if_true]
   refine b5 (Y4 (dk ?_))
   have F:=jA d {cls:=.type "cell",data:=.cell none}
   have H:d.heap.objs.size≠m.heap.objs.size:=by exact oD (ej (EU (fJ _) u) r)
   have K:m.heap.get? d.heap.objs.size=none:=get?_none_of_le (by exact a_ (eB (EU (fJ _) u)) r)
   refine qW (done++[(x,.cell)]) (by rw [l];simp) ⟨M.grow.trans F,M.fresh,?_,λa b=>?_,λa b=>?_,λa z g b C D v=>?_⟩ ?_ (λa g b G=>?_)
   .exact M.Ax.push _
   .have f:a≠x:=λe=>b (by rw [e];simp)
    rw [eN,beq_false_of_ne f]
    exact M.old a λq=>b (by simp [q])
   .clear u r s l F;by_cases f:a=x
    .clear M b;subst f
     exact ⟨d.heap.objs.size,(by simp),K,H,_,(eX _ rfl),rfl⟩
    .have i:(a,f9)∈done:=by simpa [f] using b
     refine OL (M.own a i) λg h1 h2 h3 o km=>iP km λh4 h5=>?_
     exact ⟨g,(by rw [eN,beq_false_of_ne f];exact h1),h2,h3,o,(fq _ h4),h5⟩
   .clear u r l F H K;by_cases f:a=x
    .clear M b;by_cases p:z=x
     .rw [f,p]
     .subst f
      have A:(z,f9)∈done:=by simpa [p] using C
      rw [eN,beq_false_of_ne p] at v
      simp only [eN,beq_self_eq_true,jO] at D
      have:=s z g A v
      exact absurd D (oD this)
    .have i:(a,f9)∈done:=by simpa [f] using b
     rw [eN,beq_false_of_ne f] at D
     clear b f;by_cases p:z=x
     .clear M C;subst p
      simp only [eN,beq_self_eq_true,jO] at v
      have:=s a g i D
      exact absurd v (oD this)
     .have A:(z,f9)∈done:=by simpa [p] using C
      rw [eN,beq_false_of_ne p] at v
      exact M.apart a z g i A D v
   .show _<=(d.heap.push _).objs.size
    rw [rH];exact pP r
   .show _<(d.heap.push _).objs.size
    rw [rH]
    clear u M r l F H K;by_cases f:a=x
    .clear s b;subst f
     simp only [eN,beq_self_eq_true,jO] at G
     exact G▸fJ _
    .have i:(a,f9)∈done:=by simpa [f] using b
     rw [eN,beq_false_of_ne f] at G
     exact jt (s a g i G)
  .have:(k==f9)=false:=by simpa using t
   simp only [this,fY,if_false]
   refine dk (qW (done++[(x,k)]) (by rw [l];simp) ⟨M.grow,M.fresh,M.Ax,λa b=>M.old a λq=>b (by simp [q]),λa b=>?_,λa z g b C=>?_⟩ r (λa g b=>?_))
   .have i:(a,f9)∈done:=by simpa [nD t] using b
    exact M.own a i
   .have i:(a,f9)∈done:=by simpa [nD t] using b
    have A:(z,f9)∈done:=by simpa [nD t] using C
    exact M.apart a z g i A
   .have i:(a,f9)∈done:=by simpa [nD t] using b
    exact s a g i
 .clear O W P w R N u;intro n d kq;refine r7 kq λdone l M _ _=>?_
  rw [eT] at l
  rw [<-l] at M
  have:=h _ n d M
  refine b5 (er ?_ (λ_ Y q=>dk q) λ_ _ e=>e)
  clear h l M;rcases B with ⟨⟩<;>exact this
theorem R.kk (r:R c b m) (h:m.heap.get? y=none):¬ik c b y/\c.h₀.get? y=none:=by
 refine ⟨λf=>?_,?_⟩
 .refine eS (r.oH f) λo e _=>?_
  rw [h] at e;contradiction
 .induction e:c.h₀.get? y with
  |none=>rfl
  |some o=>rw [r.old y o e] at h;contradiction
theorem DK {V:List (j9×g0)} (W:R c b m) (z:(r.map (·.1)).Nodup) (M:Made r cp m y V ab) (j:yX) (hL:j.locals=y) (hc:j.cells=V) (F:j.scope.kind= .function) (X:j.globals=iI) (hb:j.builtins=j3) (C:∀x k,ic r x=some k->j.kindOf x=some k\/(k= .free/\j.kindOf x=some .cell)) (kl:j.kindOf "__classdict__"=none) (U:∀x,(x,fE)∈r->∃a v,cp.lookup x=some a/\¬ik c b a/\c.h₀.get? a=none/\m.heap.IsCell a v) (Q:∀x a,cp.lookup x=some a->(x,fE)∈r) (kx:∀x s a,cp.lookup x=some a->cp.lookup s=some a->x=s) (hm:∀(i:Nat) x v,(slots r)[i]? =some x->e[i]? =some (some v)->∃a D,cp.lookup x=some a/\m.heap.IsCell a (some D)/\RV c m.heap D v) (kn:e.length=(slots r).length) (Z:BR r=true->j.code= .ref c.lc/\j.qual=c.E3):FR c j r e b ab:=by
 subst hL hc
 have T:∀{x:j9},(x,fE)∈r->(x,f9)∉r:=λg l=>by
  have:=DE ((jW z).mpr g) ((jW z).mpr l);contradiction
 have B:∀x a,j.cells.lookup x=some a->((x,f9)∈r/\m.heap.get? a=none/\a≠j.locals/\ab.heap.IsCell a none)\/((x,f9)∉r/\cp.lookup x=some a/\¬ik c b a/\c.h₀.get? a=none/\∃v,m.heap.IsCell a v):=by
  intro x a f
  by_cases G:(x,f9)∈r
  .refine eS (M.own x G) λc' g l=>?_
   rw [f] at g;obtain rfl:=d5 g
   exact .inl ⟨G,l⟩
  .rw [M.old x G] at f
   refine nZ (U x (Q x a f)) λc' v g l O J=>?_
   rw [f] at g;obtain rfl:=d5 g
   exact .inr ⟨G,f,l,O,v,J⟩
 have N:∀{a v},m.heap.IsCell a v->∀{d},m.heap.get? d=none->d≠a:=λh _ hd q=>by refine eS h λo ho _=>?_;rw [q,ho] at hd;contradiction
 refine iP (W.kk M.fresh) λku km=>?_
 refine ⟨⟨F,z,λx f=>?_,λx k f F=>?_,λx f=>?_,λx f=>?_,X,hb,λx s a f H=>?_,λx a f=>?_,kl⟩,λi x v hi Y=>?_,kn,(oq _ M.Ax),⟨ku,km⟩,λx a f=>?_,Z⟩
 .rcases C x _ f with h |⟨h,_⟩
  .exact h
  .contradiction
 .refine ⟨?_,?_⟩
  .rcases C x k f with h |⟨_,h⟩
   .rcases F with rfl |rfl
    .exact .inl h
    .exact .inr h
   .exact .inl h
  .have K:=(jW z).mp f
   rcases F with rfl |rfl
   .refine eS (M.own x K) λa g _=>?_;exact oq a g
   .refine i_ (U x K) λa v g _=>?_
    exact oq a ((M.old x (T K)).trans g)
 .rcases C x _ f with h |⟨h,_⟩
  .exact h
  .contradiction
 .rcases C x _ f with h |⟨h,_⟩
  .exact h
  .contradiction
 .rcases B x a f with ⟨u,n,t,p⟩ |⟨u,n,t,p,v,w⟩
  .rcases B s a H with ⟨E,A,I,L⟩ |⟨E,A,I,L,v,S⟩
   .exact M.apart x s a u E f H
   .exact absurd rfl (N S n)
  .rcases B s a H with ⟨E,A,I,L⟩ |⟨E,A,I,L,v,S⟩
   .exact absurd rfl (N w A)
   .exact kx x s a n A
 .rcases B x a f with ⟨u,n,t,p⟩ |⟨u,n,t,p,v,w⟩
  .exact t.symm
  .exact N w M.fresh
 .refine jU (hm i x v hi Y) λa D g kq J=>?_;refine eS kq λo l O=>?_
  have P:=Q x a g
  refine .inr (n0 ?_ a D ((M.old x (T P)).trans g) ⟨o,M.grow.keep _ _ l,O⟩ (J.grow M.grow))
  rcases C x _ ((jW z).mpr P) with h |⟨_,h⟩<;>rw [h]<;>simp
 .rcases B x a f with ⟨u,n,t,p⟩ |⟨u,n,t,p,v,o,w,a6⟩
  .refine iP (W.kk n) λg l=>?_
   exact ⟨g,l,_,p⟩
  .exact rL t p v o (M.grow.keep _ _ w) a6
theorem AH:∀{b:List (j9×vD)} {x:j9},
 (b.map λ(n,k)=>if (k==fE&&aa.scope.kind==.function&&aa.kindOf n==some .cell) then (n,f9) else (n,k)).lookup x=(b.lookup x).map λk=>if (k==fE&&aa.scope.kind==.function&&aa.kindOf x==some .cell) then .cell else k:=by
 intro b x
 induction b with
 |nil=>rfl
 |cons p r d=>
  obtain ⟨n,k⟩:=p
  show ph x ((if (k==fE&&aa.scope.kind==.function&&aa.kindOf n==some .cell)=true then (n,f9) else (n,k))::_)=_
  by_cases c:x=n
  .clear d;subst c
   by_cases a:(k==fE&&aa.scope.kind==.function&&aa.kindOf x==some .cell)=true
   .rw [if_pos a,eN,eN,beq_self_eq_true,jY,if_pos a]
   .rw [if_neg a,eN,eN,beq_self_eq_true,jY,if_neg a]
  .have e:=beq_false_of_ne c
   clear c;by_cases a:(k==fE&&aa.scope.kind==.function&&aa.kindOf n==some .cell)=true
   .rw [if_pos a];simp only [eN,e];exact d
   .rw [if_neg a];simp only [eN,e];exact d
noncomputable def J0 (caps:List (Option Nat)) (m:MM):MM:=caps.map λc=>c.bind λj=>(m[j]?).join
theorem Pe (F:FR c aa r e b m) (S:R c b m) (E:Du aJ=true) (Z:q5 r aJ.names=true) {K:Option g0} (M:Made aJ.names (qD aa.cells aJ.names []) m y cp ab):FR c {vV aJ y aa.globals cp ao K J (some aa) aW with scope:=WQ aJ aa} aJ.names (J0 (qo r aJ.names) e) b ab:=by
 refine qn (q9 (DJ E).1) λs _ _ H X=>?_
 have D:∀d,Env.kindOf {vV aJ y aa.globals cp ao K J (some aa) aW with scope:=WQ aJ aa} d=(ic aJ.names d).map λk=>if (k==fE&&aa.scope.kind==.function&&aa.kindOf d==some .cell) then .cell else k:=λd=>by
  rw [sD];exact AH
 have t:∀d,(d,fE)∈aJ.names->∃f,aa.cells.lookup d=some f/\aa.kindOf d≠some .local:=λd g=>by
  rcases uL Z d g with h |h
  .refine Ra (F.ok.var d _ h (.inl rfl)) λa f z=>?_
   exact ei f z (by rcases a with a |a<;>rw [a]<;>simp)
  .refine Ra (F.ok.var d _ h (.inr rfl)) λa f z=>?_
   exact ei f z (by rcases a with a |a<;>rw [a]<;>simp)
 have A:∀d f,(qD aa.cells aJ.names []).lookup d=some f->(d,fE)∈aJ.names/\aa.cells.lookup d=some f:=λd f g=>by
  refine iP (tq (cp:=aa.cells) (g:=aJ.names) (c:=[]) (b:=d)) λa1 a2=>?_
  by_cases o:(d,fE)∈aJ.names
  .refine eS (t d o) λc' n _=>?_
   rw [a1 o,n] at g
   exact ⟨o,by rw [n];exact g⟩
  .rw [a2 o] at g;contradiction
 have B:∀d,(d,fE)∈aJ.names->∃f,aa.cells.lookup d=some f/\(qD aa.cells aJ.names []).lookup d=some f:=λd g=>by
  refine eS (t d g) λf n _=>?_
  refine ei f n ?_
  rw [(tq (cp:=aa.cells) (g:=aJ.names) (c:=[]) (b:=d)).1 g,n];rfl
 refine DK S H M _ rfl rfl s F.ok.globals F.ok.builtins (λd k g=>?_) ?_ (λd g=>?_) (λd f g=>(A d f g).1) (λd G f g P=>F.ok.apart d G f (A d f g).2 (A G f P).2) (λi d v T l=>?_) ?_ (λh=>by rw [(DJ E).2] at h;contradiction)
 .rw [D d,g,jY]
  split
  .rename_i n
   simp only [eW,beq_iff_eq] at n
   exact .inr ⟨n.1.1,rfl⟩
  .exact .inl rfl
 .rw [D,sD,X];rfl
 .refine eS (B d g) λf s p=>?_
  refine Ti (F.BV d f s) λN Q v V=>?_
  exact pk f v p N Q V
 .unfold J0 qo at l
  rw (config:={}) [ed,ed,T,jY,jY] at l
  have l:=d5 l
  by_cases u:ic aJ.names d=some .free
  .rw [if_pos u] at l
   refine eS (jn.mp l) λj hj l=>?_
   have I:=(jW H).mp u
   refine eS (t d I) λf n O=>?_
   have Y:e[j]? =some (some v):=by
    induction C:e[j]? using d_ with
    |none=>rw [C] at l;contradiction
    |some w=>rw [C] at l;exact congrArg some l
   rcases F.holds j d v (pv hj) Y with ⟨k,_⟩ |⟨_,c',L,W,U,q⟩
   .exact absurd k O
   .refine eS (B d I) λc2 p h3=>?_
    rw [W] at p;obtain rfl:=d5 p
    exact mU _ L h3 U q
  .rw [if_neg u] at l;contradiction
 .unfold J0 qo;simp
structure BI (B:Base) (env:yX) (ns:gq) (D:g0) (st:AS) (s:eM) (st':AS) (s':eM):Prop where
 keep:∀b o,s.heap.get? b=some o->¬ik B st b->¬Own ns env b->b≠D->s'.heap.get? b=some o
 foot:∀b,ik B st' b->ik B st b\/s.heap.get? b=none
structure Acc (B:Base) (st:AS) (s:eM) (D:g0) (acc:List AV):Prop where
 obj:∃its k,s.heap.get? D=some (listOf its k)/\h_ B s.heap its.toList acc
 len:acc.length<=fG
 nf:¬ik B st D
 h0:B.h₀.get? D=none
inductive Pf (B:Base) (n:Nat) (ns:gq):List gg->wL->Prop where
 |nil:Pf B n ns [] .nil
 |cons {e:gg} {r:List gg} {c:CE} {cs:wL}:ST B n ns e c->Pf B n ns r cs->Pf B n ns (e::r) (.cons c cs)
theorem BI.refl:BI c aa r y b m b m:=⟨λ_ _ e _ _ _=>e,λ_ f=>.inl f⟩
theorem xq.Sw (x:xq c aa r b m p ab):BI c aa r y b m p ab:=⟨λa o e f w _=>x.keep a o e f w,x.foot⟩
theorem BI.trans (x:BI c aa r y b m p ab) (F:FR c aa r e p ab) (q:∃o,ab.heap.get? y=some o) (i:BI c aa r y p ab ax aU):BI c aa r y b m ax aU where
 keep a o g f w d:=i.keep a o (x.keep a o g f w d) (λs=>(x.foot a s).elim f λl=>by rw [l] at g;contradiction) w d
 foot a f:=(i.foot a f).elim (x.foot a) λl=>by
  by_cases h:ik c b a
  .exact .inl h
  .by_cases k:Own r aa a
   .refine eS (F.xr k) λo j _=>?_
    rw [l] at j;contradiction
   .by_cases n:a=y
    .clear x F i f h k;subst n;refine kf q λo j=>?_;rw [l] at j;contradiction
    .induction g:m.heap.get? a with
     |none=>exact .inr rfl
     |some o=>rw [x.keep a o g h k n] at l;contradiction
theorem BI.but (a:BI c aa r y b m p ab) (g:vl aW ab aU) (i:m.heap.get? aW=none):BI c aa r y b m p aU:=
 ⟨λh o e f w d=>g.keep h o (λz=>by clear a g f w d;subst z;rw [i] at e;contradiction) (a.keep h o e f w d),a.foot⟩
theorem Acc.has (a:Acc c b m y l):∃o,m.heap.get? y=some o:=i_ a.obj λd k e _=>⟨_,e⟩
theorem Acc.sF (a:Acc c b m y l):∀o,m.heap.get? y=some o->¬gc o:=λo e=>by
 refine i_ a.obj λf k d _=>?_
 rw [e] at d;clear e;obtain rfl:=d5 d;exact qH _ _
theorem Acc.step (a:Acc c b m y l) (r:R c b m) (d:St c b m p ab):Acc c p ab y l:=by
 refine i_ a.obj λh k e q=>?_
 refine ⟨(nE h k (d.keep _ _ e a.nf) (q.step r d)),a.len,λf=>(d.foot y f).elim a.nf (λg=>by rw [g] at e;contradiction),a.h0⟩
theorem FR.Hp (F:FR c aa r e b m) (a:Acc c b m y l):¬Own r aa y/\aa.locals≠y/\∀x g,aa.cells.lookup x=some g->g≠y:=by
 refine i_ a.obj λu k n _=>?_
 have i:aa.locals≠y:=λq=>by
  refine Ag F.Ax λf o t z d p _=>?_
  rw [q,n] at d;(injection d with d;subst d);contradiction
 have j:∀x g,aa.cells.lookup x=some g->g≠y:=λx g h q=>by
  refine oO (F.BV x g h) λ_ _ v o d p=>?_
  rw [q,n] at d;(injection d with d;subst d);contradiction
 exact iD (λw=>w.elim (λq=>i q.symm) λs=>eS s λx _ h=>j x y h rfl) i j
theorem Acc.AE (a:Acc c b m y l) (j:R c b m) (F:FR c aa r e b m) (d:xq c aa r b m p ab):Acc c p ab y l:=by
 refine i_ a.obj λi k g q=>?_
 refine ⟨(nE i k (d.keep _ _ g a.nf (F.Hp a).1) (q.AE j F d)),a.len,λf=>(d.foot y f).elim a.nf (λh=>by rw [h] at g;contradiction),a.h0⟩
theorem Acc.but (a:Acc c b m y l) (d:vl aW m ab) (h:aW≠y) (g:∀o,m.heap.get? aW=some o->¬gc o):Acc c b ab y l:=by
 refine i_ a.obj λf k e q=>?_
 exact ⟨(nE f k (d.keep _ _ (nD h) e) (q.but d g)),a.len,a.nf,a.h0⟩
theorem Mi (a:Acc c b m y l) (t:R c b m) (F:FR c aa r e b m) (z:RV c m.heap J i) (p:l.length<fG) (h:∀g,FR c aa r e b g->R c b g->vl y m g->Acc c b g y (l++[i])->aG .none g):WE c L (nF (.builtin "list.append") [.ref y,J]) aG m:=by
 refine i_ a.obj λf k j q=>?_
 have w:f.size=l.length:=by rw [<-q.length,eD]
 refine vX rW (ei _ j rfl) BB (SX _ _) (v3 y f k J (a_ (by exact n1 w (eB p)) ia)) ⟨j,?_⟩
 have d:vl y m {m with heap:=m.heap.update y (fL λi=>i.push J)}:=by
  have v:iJ y m.heap (m.heap.update y (fL λi=>i.push J)):=gM ..
  exact ⟨λu o d j=>(v.2 u d).trans j,rfl,rfl⟩
 refine mT (F.Hp a) λ_ x A=>?_
 obtain ⟨n,s⟩:∃n,(listOf f k).mapSeq (λi=>i.push J)=listOf (f.push J) n:=oq _ rfl
 refine h _ (F.but d x A a.sF) (t.but d a.nf a.h0 a.sF) d ⟨(nE (f.push J) n ?_ ?_),by rw [bh];exact p,a.nf,a.h0⟩
 .rw [<-s];exact nH _ j (by rw [s];rfl)
 .rw [sq];exact (q.but d a.sF).append (.cons (z.but d a.sF) .nil)
theorem Mj (q:Pf c a r az aq):∀{A:ji} {d:yX} {m:MM} {f:AS} {s:eM} {Q:Bool->AS->Prop},mW a A->FR c d r m f s->R c f s->LA PG (eF PG a) aq m f Q->
 WE c A (forIn az true λg b=>if b=true then do let l <-Aa g d (vW g d);pure (iU l) else pure (iU b)) (Ay c f s Q) s:=by
 have w:∀(az:List gg) (d:yX),(forIn az false λg b=>if b=true then do let l <-Aa g d (vW g d);pure (iU l) else pure (iU b):N5 Bool)=pure false:=by
  intro az d
  induction az with
  |nil=>rfl
  |cons e b k=>rw [qM];simp only [fY,if_false,pure_bind];exact k
 induction q with
 |nil=>intro A d m f s Q i F b h;exact dk ⟨f,b,.refl,h⟩
 |cons v x k=>
  intro A d m f s Q i F b h
  rw [qM]
  simp only [if_true]
  refine b5 (b5 (q6 (v A d m f s _ i F b h) (λt y u o j n=>dk ?_)))
  dsimp only
  induction t with
  |true=>exact er (k i (F.step b j) o n) (λ_ _ p=>p.trans j) λ_ _ e=>e
  |false=>rw [w];exact dk ⟨u,o,j,n⟩
noncomputable def CC (B:Base) (n:Nat) (ns:gq) (P:MM->MM->Prop) (act:g0->yX->N5 Unit) (sem:MM->List AV->AS->(List AV->AS->Prop)->Prop):Prop:=
 ∀(A:ji) (env:yX) (m:MM) (st:AS) (s:eM) (D:g0) (acc:List AV) (K:List AV->AS->Prop),mW n A->FR B env ns m st s->R B st s->Acc B st s D acc->sem m acc st K->
  WE B A (act D env) (λ_ s'=>∃acc' m' st',P m m'/\FR B env ns m' st' s'/\R B st' s'/\BI B env ns D st s st' s'/\Acc B st' s' D acc'/\K acc' st') s
noncomputable def Mk (n:Nat) (it:It) (tg:List Nat) (mb:MM) (cs:wL) (sem:MM->List AV->AS->(List AV->AS->Prop)->Prop) (K:List AV->AS->Prop) (xs:List AV):List AV->AS->Prop:=
 xs.foldr (λx k acc st=>it.ok st/\∃m',jI tg x mb=some m'/\LA PG (eF PG n) cs m' st λt st=>if t then sem m' acc st k else k acc st)
 (λacc st=>it.ok st/\K acc st)
noncomputable def Ry (elt:gg) (D:g0) (env:yX):N5 Unit:=do
 let x <-vW elt env
 let _ <-nF (.builtin "list.append") [.ref D,x]
noncomputable def Pg (e:gg) (d:Nat) (i:gg) (D:g0) (env:yX):N5 Unit:=do
 let x <-vW i env
 GD i.pos
 let x <-Si i env x
 let it <-yT [x] (QY x)
 let _ <-runOwn (.compStart e d it (.ref D) env) env
noncomputable def uM (t i:gg) (fs:List gg) (it:eJ) (act:N5 Unit) (env:yX) (c:Code):N5 Fin:=do
 GD i.pos
 match <-Vf it with
 |none=>pure (.done .next)
 |some v=>
  rV t it v
  x_ t env v
  let ok <-forIn fs true λc r=>if r=true then do let ok <-Aa c env (vW c env);pure (iU ok) else pure (iU r)
  if ok then do
   act
   Y5 c
  else Y5 c
variable {br:List uo}
theorem ze (e:br[a]? =some ⟨aH,aX,az,0⟩) (d:br[a+1]? =none) (c:eJ) (D:g0) (b:yX):
 sZ (.ListComp a0 br aJ ae) a c (.ref D) b=uM aH aX az c (Ry a0 D b) b (.compLoop (.ListComp a0 br aJ ae) a c (.ref D) b):=by
 unfold sZ
 dsimp only
 rw [e,d]
 rfl
theorem xt {h d:gg} {e:List gg} (g:br[a]? =some ⟨aH,aX,az,0⟩) (f:br[a+1]? =some ⟨h,d,e,0⟩) (c:eJ) (D:g0) (b:yX):
 sZ (.ListComp a0 br aJ ae) a c (.ref D) b=uM aH aX az c (Pg (.ListComp a0 br aJ ae) (a+1) d D b) b (.compLoop (.ListComp a0 br aJ ae) a c (.ref D) b):=by
 unfold sZ
 dsimp only
 rw [g,f]
 unfold uM Pg
 simp only [bind_assoc,pure_bind]
 rfl
theorem BI.frozen (i:R c b m) (F:FR c aa r e b m) (a:Acc c b m y l) (x:BI c aa r y b m p ab):∀g o,m.heap.get? g=some o->gc o->ab.heap.get? g=some o:=λg o h f=>
 x.keep g o h (λq=>by
  refine eS (i.oH q) λj d n=>?_
  rw [h] at d;(injection d with d;subst d);exact n f) (λw=>by
  refine gi (F.xr w) λj d n _=>?_
  rw [h] at d;(injection d with d;subst d);exact n f) λq=>by clear i F x;subst q;exact a.sF _ h f
theorem St.Sw (x:St c b m p ab):BI c aa r y b m p ab:=x.toF.Sw
theorem Sx {t:N5 h} {Q:h->eM->Prop} (a:WE c L t Q m):gf (hX c.prog c.w) L t Q aG m:=er a (λ_ _ q=>q) λ_ _ e=>e.elim
variable {cZ:g0->yX->N5 Unit} {cI:MM->MM->Prop}
theorem CD {kx:MM->List AV->AS->(List AV->AS->Prop)->Prop} (kW:∀bC y aa,sZ (.ListComp a0 br aJ ae) d bC (.ref y) aa=uM aH aX az bC (cZ y aa) aa (.compLoop (.ListComp a0 br aJ ae) d bC (.ref y) aa)) (ht:An r aH=some C) (lD:Pf c a r az aq) (lF:CC c a r cI cZ kx) (lh:∀kI,cI kI kI) (kT:∀(x:AV) (u m2:MM) (T km:AS) (U s2:eM) (l:List AV),jI C x e=some u->cI u m2->FR c aa r e T U->R c T U->Acc c T U y l->FR c aa r m2 km s2->BI c aa r y T U km s2->FR c aa r e km s2) (O:mW a L) (F:FR c aa r e b m) (lj:R c b m) (ly:Acc c b m y l) (q:wM c m.heap aW bC aN 0) (kC:aW≠y) (lE:¬ik c b aW) (kJ:c.h₀.get? aW=none) (ky:aa.locals≠aW) (kD:∀x kF,aa.cells.lookup x=some kF->kF≠aW) (lr:BI c aa r y p ab b m) (kU:ab.heap.get? aW=none) (h:Mk a bC C e aq kx bH aN l b) (hZ:∀n i j,FR c aa r e i j->R c i j->BI c aa r y p ab i j->Acc c i j y n->bH n i->bJ (.ok .next) j):
 sv (hX c.prog c.w) L (.compLoop (.ListComp a0 br aJ ae) d (.ref aW) (.ref y) aa) bJ m:=by
 have kQ:¬Own r aa aW:=λw=>w.elim (λq=>ky q.symm) λzf=>eS zf λx _ hc=>kD x aW hc rfl
 refine codeAny_loop rfl (λk j=>∃aX n i,k=aN.length -aX/\FR c aa r e i j/\R c i j/\BI c aa r y p ab i j/\Acc c i j y n/\wM c j.heap aW bC aN aX/\¬ik c i aW/\Mk a bC C e aq kx bH (aN.drop aX) n i) ?_ aN.length
  ⟨0,l,b,rfl,F,lj,lr,ly,q,lE,h⟩
 intro k j lB;refine Q_ k lB λaX n i kX=>Af kX λF' Q y' a' q' J W=>?_
 show gf _ L ((sZ (.ListComp a0 br aJ ae) d (.ref aW) (.ref y) aa).onRaise (λx=>do SR x aa;UA x)) _ _ j
 refine Y2 ?_
 rw [kW]
 unfold uM
 have z:∀o,j.heap.get? aW=some o->¬gc o:=λo g=>by refine eS q'.nf λo' e' nf=>?_;rw [g] at e';obtain rfl:=d5 e';exact nf
 induction I:aN[aX]? using d_ with
 |none=>
  rw [pI (by simpa using I)] at W
  refine iP W λD G=>?_
  refine b5 (mR (b5 (er (q'.done Q D O.handled I) (λkZ B t=>?_) λ_ _ g=>g.elim)))
  refine iP t λg s=>?_
  subst g
  exact dk (hZ n i B (F'.but s ky kD z) (Q.but s J kJ z) (y'.but s kU) (a'.but s kC z) G)
 |some x=>
  rw [drop_cons I] at W
  refine iP W λD G=>?_
  refine b5 (mR (b5 (er (q'.next Q D I) (λkZ B t=>?_) λ_ _ g=>g.elim)))
  refine r7 t λw g s kN qw=>?_
  subst g
  have v:=F'.but s ky kD z
  have E:=Q.but s J kJ z
  have kO:=y'.but s kU
  have H:=a'.but s kC z
  refine b5 (Sx (zc kN aH w ?_))
  refine eS G λu Z G=>?_
  refine b5 (Sx (DF v E O.handled ht Z qw λlz kl V Y=>?_))
  have lC:=H.AE E v Y
  have kK:wM c lz.heap aW bC aN (aX+1):=kN.mono (Y.frozen E v) λo g=>Y.keep aW o g J kQ
  refine b5 (er (Mj lD O kl V G) (λD S t=>?_) λ_ _ g=>g.elim)
  obtain ⟨K,kn,A,X⟩:=t
  have M:=kl.step V A
  have N:=lC.step V A
  have kq:¬ik c K aW:=λf=>(A.foot aW f).elim J λkB=>by refine eS kK.nf λo g _=>?_;rw [kB] at g;contradiction
  have kz:wM c S.heap aW bC aN (aX+1):=kK.mono (A.frozen V) λo g=>A.keep aW o g J
  have ku:BI c aa r y i B K S:=(Y.trans kl A.toF).Sw
  have kG:=(ey.mp I).1
  induction D using j7 with
  |false=>
   simp only [fY,if_false] at X⊢
   exact dk ⟨rfl,(aN.length - (aX+1)),(by exact Jw aN.length aX kG),(aX+1),n,K,rfl,(kT x u u i K B S n Z (lh _) v E H M ku),kn,(kO.trans v H.has ku),N,kz,kq,X⟩
  |true=>
   simp only [if_true] at X⊢
   refine b5 (er (lF L aa u K S y n _ O M kn N X) (λ_ kH t=>?_) λ_ _ g=>g.elim)
   refine qZ t λlu lx kM hP kY lg P kV lA=>?_
   have kP:=ku.trans M N.has P
   have lq:wM c kH.heap aW bC aN (aX+1):=kz.mono (P.frozen kn M N) λo g=>P.keep aW o g kq kQ kC
   exact dk ⟨rfl,aN.length - (aX+1),by exact Jw aN.length aX kG,aX+1,lu,kM,rfl,kT x u lx i kM B kH n Z hP v E H kY kP,lg,kO.trans v H.has kP,kV,lq,λf=>(P.foot aW f).elim kq (λkB=>by
    refine eS kz.nf λo g _=>?_
    rw [kB] at g;contradiction),lA⟩
theorem Fo (b:br[a]? =some ⟨aH,aX,az,0⟩) (q:wM c m.heap y bC l d) (h:sv (hX c.prog c.w) L (.compLoop (.ListComp a0 br aJ ae) a (.ref y) J aa) bJ m):sv (hX c.prog c.w) L (.compStart (.ListComp a0 br aJ ae) a (.ref y) J aa) bJ m:=by
 refine codeAny_of_tree ?_
 show gf _ _ ((compStart (.ListComp a0 br aJ ae) a (.ref y) J aa).onRaise (λx=>do SR x aa;GD theWindowsPlace)) _ _ m
 refine wpAny_notedAt ?_
 unfold compStart
 show gf _ _ (if (br[a]?).elim false (λx=>x.is_async !=0)=true then _ else _) _ _ m
 rw (config:={}) [b]
 show gf _ _ (ask>>= _) _ _ m
 refine b5 (SN (wpAny_ite ?_))
 split
 .first
   |exact b5 (dk (dk (And.intro rfl h)))
   |exact dk (And.intro rfl h)
 .refine b5 (nI ?_)
  show gf _ _ (match br[a]? with |some g=>GD g.iter.pos>>= λ_=>(do let v <-QY (.ref y);Y5 (.compLoop (.ListComp a0 br aJ ae) a v J aa)) |x=>(do let v <-QY (.ref y);Y5 (.compLoop (.ListComp a0 br aJ ae) a v J aa))) _ _ m
  rw [b]
  exact b5 (mR (b5 (Sx (Hm q (dk (And.intro rfl h))))))
theorem Ml (H:SE c a r a0 g):CC c a r Eq (Ry a0) (VG PG (eF PG a) (VE PG (eF PG a) g) .nil):=λA u m G s D M K q F j l h=>by
 unfold Ry
 refine b5 (f6 (H A u m G s _ q F j h) (λv J x B E y i k=>?_))
 have n:=F.step j i
 have t:=l.step j i
 refine b5 (Mi t y n E k.1 λL p I C z=>dk ⟨_,m,B,rfl,p,I,?_,z,k.2⟩)
 exact ⟨λb o e f w d=>C.keep b o d (i.keep b o e f),i.foot⟩
theorem IP:∀{d:List Nat} {a:MM} {i:Nat} {v:AV},(Oo d a)[i]? =some (some v)->i∉d/\a[i]? =some (some v):=by
 intro k
 induction k with
 |nil=>
  intro a i v h
  exact ⟨(by (repeat intro _);contradiction),h⟩
 |cons j d e=>
  intro a i v h
  refine iP (e (a:=a.set j none) h) λf b=>?_
  clear e h;by_cases c:i=j
  .subst c
   rw [List.getElem?_set_self'] at b
   induction q:a[i]? with |_=>rw [q] at b;cases b
  .rw [iM (nD c)] at b
   exact ⟨λg=>(eL.mp g).elim c f,b⟩
theorem Ph:∀{b:List Nat} {a:MM},(Oo b a).length=a.length:=by
 intro d
 induction d with
 |nil=>
  intro a
  exact rfl
 |cons j b c=>
  intro a
  exact (c (a:=a.set j none)).trans gK
theorem yp:∀{l:List Nat} {a:List AV} {m:MM} {i:Nat},i∉l->(pJ m l a)[i]? =m[i]?
 |[],a,m,i,_=>by rcases a with ⟨⟩<;>rfl
 |j::l,[],m,i,_=>rfl
 |j::l,x::a,m,i,b=>by
  have c:i≠j:=λe=>b (e▸.head _)
  show (pJ (m.set j (some x)) l a)[i]? =m[i]?
  rw [yp λh=>b (.tail _ h),iM (nD c)]
theorem J1 (h:jI C i e=some bQ) (c:a∉C):bQ[a]? =e[a]? :=by
 match C,h with
 |[j],h=>
  (injection h with h;subst h)
  exact iM λg=>c (by rw [g];exact .head _)
 |[],h=>
  induction i using AV.casesOn with
  |tup f=>exact (Ly h).2▸yp c
  |_=>contradiction
 |k::b::l,h=>
  refine gi (we (by simp) h) λf _ _ d=>?_;subst d
  exact yp c
theorem FR.weaken (F:FR c aa r e b m) (d:bQ.length=e.length) (h:∀(i:Nat) (v:AV),bQ[i]? =some (some v)->e[i]? =some (some v)):FR c aa r bQ b m where
 ok:=F.ok
 holds i x v a f:=F.holds i x v a (h i v f)
 len:=d.trans F.len
 Ax:=F.Ax
 Cw:=F.Cw
 BV:=F.BV
 code:=F.code
theorem TV (x:AV) (l j:MM) (b f:AS) (d g:eM) (n:List AV) (m:jI C x (Oo C e)=some l) (o:l=j) (F:FR c aa r (Oo C e) b d) (p:R c b d) (a:Acc c b d y n) (k:FR c aa r j f g) (q:BI c aa r y b d f g):FR c aa r (Oo C e) f g:=by
 subst o
 refine k.weaken (F.len.trans k.len.symm) λi v h=>?_
 rw [J1 m (IP h).1];exact h
noncomputable def Fp (ns:gq) (m:MM):Prop:=∀(i:Nat) x v,(slots ns)[i]? =some x->m[i]? =some (some v)->ic ns x=some .free
theorem TX (L:Fp r e) (x:AV) (A p:MM) (f j:AS) (g m:eM) (N:List AV) (Q:jI C x e=some A) (S:cI A p) (F:FR c aa r e f g) (H:R c f g) (a:Acc c f g y N) (l:FR c aa r p j m) (t:BI c aa r y f g j m):FR c aa r e j m where
 ok:=F.ok
 holds i z v n B:=by
  have s:=L i z v n B
  refine Ra (F.ok.var z _ s (.inr rfl)) λI P O=>?_
  rcases F.holds i z v n B with ⟨k,_⟩ |⟨k,b,D,d,⟨o,M,G⟩,q⟩
  .rcases I with h |h<;>rw [k] at h<;>contradiction
  .refine .inr (n0 k b D d ⟨o,t.keep b o M (F.BV z b d).1 (λw=>?_) ((F.Hp a).2.2 z b d),G⟩ (q.mono (t.frozen H F a)))
   rcases w with K |⟨u,E,J⟩
   .exact F.ok.Hh z b d K.symm
   .have:=F.ok.apart z u b d J
    subst this
    rw [s] at E;contradiction
 len:=F.len
 Ax:=l.Ax
 Cw:=l.Cw
 BV:=l.BV
 code:=F.code
theorem Rz (z:gX c) (u:br[d]? =some ⟨aH,aX,az,0⟩) (S:br[d+1]? =none) (U:An r aH=some C) (L:xc aX=true) (w:SE c a r aX g) (kx:Pf c a r az aq) (he:SE c a r a0 D):
 CC c a r (λ_ _=>True) (Pg (.ListComp a0 br aJ ae) d aX) (VG PG (eF PG a) (VE PG (eF PG a) D) (.cons C g aq .nil)):=λA l m st s ku kC kB y F i t h=>by
 unfold Pg
 refine b5 (f6 (w A l m st s _ y F i h.2) (λv km x B E b p H=>?_))
 have k:=F.step i p
 have n:=t.step i p
 refine b5 (mR (b5 ?_))
 rw [uK L l]
 refine dk (b5 (f7 (er (wd z b E H) (λiv V J=>?_) λ_ _ e=>e.elim)))
 refine oY J λI it xs e f j G kn=>?_
 clear z L w F i t E H J;subst e
 refine mT (k.Fj j) λM kl kD=>?_
 refine iP (b.kk j) λky kz=>?_
 have Z:=k.step b (.grow f)
 have Q:=n.step b (.grow f)
 have R:I≠ku:=λq=>by subst q;refine kf n.has λo e=>?_;rw [j] at e;contradiction
 refine b5 (wpAny_runOwn (Fo u G ?_))
 have O:FR c l r (Oo C m) B V:=Z.weaken Ph λaX v h=>(IP h).2
 refine CD (p:=B) (ab:=km) (e:=Oo C m) (cI:=Eq) (bH:=kB) (ze u S) U kx (Ml he) (λ_=>rfl) TV y O (b.grow f) Q G R ky kz M kl (ED f).Sw j kn ?_
 intro Y kq s' W T X a' N
 exact dk ⟨Y,(Oo C m),kq,trivial,W,T,(p.Sw.trans k n.has X),a',N⟩
theorem R.TY {o:AO} (r:R c b m) (j:¬ik c b y) (w:c.h₀.get? y=none) (t:RO c m.heap y o) (p:∀f v g,o≠.inst f v g):
 b.free y/\R c (b.set y o) m/\∀d,ik c (b.set y o) d->ik c b d\/d=y:=by
 have l:b.free y:=⟨by
  induction e:b y with
  |none=>rfl
  |some B=>exact absurd (.inl (by rw [e];simp)) j,λd f g e=>j (.inr (.inl (qC d f g e)))⟩
 have s:y≠c.tab:=λe=>j (.inr (.inr e))
 have u:∀d,ik c (b.set y o) d->ik c b d\/d=y:=by
  clear r j w t l s;rintro d (h |⟨a,f,g,h⟩ |h)
  .by_cases k:d=y
   .exact .inr k
   .rw [gu k] at h;exact .inl (.inl h)
  .by_cases i:a=y
   .subst i;rw [gZ] at h;(injection h with h;subst h);exact absurd rfl (p _ _ _)
   .rw [gu i] at h;exact .inl (.inr (.inl (qC a f g h)))
  .exact .inl (.inr (.inr h))
 refine iD l ⟨λa B e=>?_,r.old,λd k=>?_,λa f v g e=>?_,?_,r.tab,r.gens,r.os⟩ u
 .clear j w p l s u;by_cases i:a=y
  .clear r;subst i;rw [gZ] at e;(injection e with e;subst e);exact t
  .rw [gu i] at e;exact r.objs a B e
 .clear j t p l s;rcases u d k with h |rfl
  .exact r.new d h
  .exact w
 .have i:a≠y:=λq=>by subst q;rw [gZ] at e;(injection e with e;subst e);exact absurd rfl (p _ _ _)
  rw [gu i] at e
  refine mT (r.Cv a f v g e) λx A E=>?_
  have z:v≠y:=λq=>l.2 a f g (q▸e)
  refine iD (by rw [gu z];exact x) A (λd D C n=>?_)
  clear r j w t l s u e i x A z;by_cases k:d=y
  .subst k;rw [gZ] at n;(injection n with n;subst n);exact absurd rfl (p _ _ _)
  .rw [gu k] at n;exact E d D C n
 .rw [gu (nD s)];exact r.vF
theorem adopt (s:R c p ab) (a:Acc c p ab y l) (n:BI c aa r y b m p ab) (j:m.heap.get? y=none) (t:∀d,Own r aa d->m.heap.get? d=none):
 p.free y/\R c (p.set y (.list l)) ab/\St c b m (p.set y (.list l)) ab:=by
 refine i_ a.obj λx k e q=>?_
 obtain ⟨f,i,u⟩:=s.TY a.nf a.h0 (.list e q a.len) (by (repeat intro _);contradiction)
 refine ⟨f,i,λd o g v=>n.keep d o g v (λw=>by rw [t d w] at g;contradiction) (λq=>by rw [q,j] at g;contradiction),λd g=>?_⟩
 clear s a t e q f i;rcases u d g with h |rfl
 .exact n.foot d h
 .exact .inr j
theorem J2:Fp aJ.names (J0 (qo r aJ.names) e):=λi x v c a=>by
 unfold J0 qo at a
 rw (config:={}) [ed,ed,c,jY,jY] at a
 have a:=d5 a
 by_cases b:ic aJ.names x=some .free
 .exact b
 .rw [if_neg b] at a;contradiction
theorem CF (HB:gX c) {kV:MM->List AV->AS->(List AV->AS->Prop)->Prop} (kH:Du aJ=true) (kI:q5 r aJ.names=true) (kJ:∀E D aa,sZ (.ListComp a0 (⟨aH,aX,az,0⟩::br) aJ ae) 0 E (.ref D) aa=uM aH aX az E (cZ D aa) aa (.compLoop (.ListComp a0 (⟨aH,aX,az,0⟩::br) aJ ae) 0 E (.ref D) aa)) (ht:An aJ.names aH=some C) (j:xc aX=true) (hi:SE c a r aX g) (lz:Pf c a aJ.names az aq) (lB:CC c a aJ.names cI cZ kV) (kQ:∀e,cI e e) (Z:mW a L) (F:FR c aa r e b m) (kx:R c b m) {kO:Option (eJ->N5 Unit)} (h:VE PG (eF PG a) g e b λv b=>om b (λE xs=>Mk a E C (J0 (qo r aJ.names) e) aq kV (λlF b=>∀p,b.free p->n (.ref p) (b.set p (.list lF))) xs [] b) v) (hZ:∀D T N B,RV c B.heap (.ref D) (.ref D)->R c N B->St c b m N B->n (.ref D) N->Ot c b m T->¬ik c N T->(∃e,B.heap.Ns T e)->compPost (hX c.prog c.w) L VQ kO aG (.ref D) T (.ok .next) B):
 WE c L (Wj (.ListComp a0 (⟨aH,aX,az,0⟩::br) aJ ae) aJ aa b9 (WR []) false (vW aX aa) kO) aG m:=by
 refine qn (q9 (DJ kH).1) λu _ _ Q h5=>?_
 have Y:∀i,(i,fE)∈aJ.names->∃p,aa.cells.lookup i=some p:=λi A=>by
  rcases uL kI i A with h |h
  .exact (F.ok.var i _ h (.inl rfl)).2
  .exact (F.ok.var i _ h (.inr rfl)).2
 refine wpAny_comprehension_free rfl (uK j aa) (vQ Y) u (λi A hl=>?_) (f6 (hi L aa e b m _ Z F kx h) (λv H i kK qv G W lu=>?_))
 .rw [<-sD];exact (jW Q).mpr (hl▸A)
 refine er (wd HB G qv lu) (λiv s ζ=>?_) λ_ _ d=>d.elim
 refine oY ζ λI E xs d K X km kU=>?_
 clear ζ;subst d
 have kC:=F.step kx W
 have kP:=kC.step G (.grow K)
 have kD:=G.grow K
 unfold WR
 refine k8 (hd:=by size_fits) ?_
 have y:=jA s (listOf #[] 0)
 have P:s.heap.get? s.heap.objs.size=none:=iq _
 show WE c L (GU aJ aa.globals (qD aa.cells aJ.names []) [] aa.qual none .none (some aa)) _ {s with heap:=s.heap.push (listOf #[] 0)}
 generalize kN:s.heap.objs.size=D at P⊢
 have kF:({s with heap:=s.heap.push (listOf #[] 0)}:eM).heap.get? D=some (listOf #[] 0):=by rw [<-kN];exact eX _ rfl
 generalize lD:({s with heap:=s.heap.push (listOf #[] 0)}:eM)=lE at y kF⊢
 have kX:=kP.step kD (.grow y)
 have ku:=kD.grow y
 refine AG Q λz kG kY M=>dk ?_
 have Fc:=Pe (ao:=aa.qual) (K:=none) (J:=.none) (aW:=j3) kX ku kH kI M
 have lj:=ku.grow M.grow
 have kl:=K.trans y
 have O:∀{t:g0},lE.heap.get? t=none->H.heap.get? t=none:=λ{t} U=>by
  induction d:H.heap.get? t using d_ with
  |none=>rfl
  |some o=>rw [kl.keep t o d] at U;contradiction
 have kq:H.heap.get? D=none:=by
  induction d:H.heap.get? D using d_ with
  |none=>rfl
  |some o=>rw [K.keep D o d] at P;contradiction
 refine iP (G.kk kq) λkM lx=>?_
 have lr:=M.grow.keep _ _ kF
 have lq:Acc c kK kY D []:=⟨(nE (#[]) 0 lr .nil),fA _,kM,lx⟩
 have kz:wM c kY.heap I E xs 0:=km.mono (λkB o d _=>M.grow.keep _ _ (y.keep _ _ d)) λo d=>M.grow.keep _ _ (y.keep _ _ d)
 refine iP (G.kk X) λlA kW=>?_
 have S:∃o,s.heap.get? I=some o:=eS km.nf λo d _=>(oq o d)
 have lg:I≠D:=λq=>by subst q;refine kf S λo d=>?_;rw [P] at d;contradiction
 have ly:z≠I:=λq=>by
  refine kf S λo d=>?_
  have:=M.fresh
  rw [q,y.keep _ _ d] at this;contradiction
 have lh:∀i p,kG.lookup i=some p->p≠I:=λi p j q=>by
  by_cases A:(i,f9)∈aJ.names
  .refine gi (M.own i A) λc' u h2 _=>?_
   rw [j] at u;obtain rfl:=d5 u
   refine kf S λo d=>?_
   rw [q,y.keep _ _ d] at h2;contradiction
  .rw [M.old i A] at j
   refine iP (tq (cp:=aa.cells) (g:=aJ.names) (c:=[]) (b:=i)) λa1 a2=>?_
   by_cases hm:(i,fE)∈aJ.names
   .refine kf (Y i hm) λc' kZ=>?_
    rw [a1 hm,kZ] at j
    (injection j with j;subst j)
    refine oO (kC.BV i _ kZ) λ_ _ v o J _=>?_
    have q:c'=I:=q
    rw [q,X] at J;contradiction
   .rw [a2 hm] at j;contradiction
 have kT:∀t,Own aJ.names {vV aJ z aa.globals kG aa.qual none .none (some aa) j3 with scope:=WQ aJ aa} t->H.heap.get? t=none:=by
  rintro t (w |⟨i,A,j⟩)
  .have w:t=z:=w
   rw [w];exact O M.fresh
  .have j:kG.lookup i=some t:=j
   refine gi (M.own i ((jW Q).mp A)) λc' u h2 _=>?_
   rw [j] at u;(injection u with u;subst u)
   exact O h2
 refine Fo (by rfl) kz ?_
 refine CD (p:=kK) (ab:=H) kJ ht lz lB kQ (TX J2) Z Fc lj lq kz lg lA kW ly lh (ED (kl.trans M.grow)).Sw X kU ?_
 intro lI N B V r' y' a' hK
 refine mT (adopt r' a' y' kq kT) λhf lC ky=>?_
 have kn:H.heap.get? z=none:=O M.fresh
 refine hZ D z _ B (.ref D) lC (W.trans ky) (hK D hf) (Ot.of W kn) (λf=>?_) V.Ax
 rcases ky.foot z f with f |l
 .exact (G.kk kn).1 f
 .exact V.Cw.1 (by
   rcases f with f |⟨kB,p,az,d⟩ |f
   .by_cases U:z=D
    .refine Ag V.Ax λf0 o es ep J lH _=>?_
     refine i_ a'.obj λlG k d _=>?_
     have J:B.heap.get? z=some o:=J
     rw [U,d] at J;obtain rfl:=d5 J;contradiction
    .rw [gu U] at f;exact .inl f
   .clear HB kH kI kJ ht j hi lz lB kQ Z F kx h hZ u Q h5 Y qv G W lu K X km kU kC kP kD kN P lD y kF kX ku M Fc lj kl O kq kM lx lr lq kz lA kW S lg ly lh kT V r' y' a' hK hf lC ky kn l;by_cases ha:kB=D
    .subst ha;rw [gZ] at d;(injection d;contradiction)
    .rw [gu ha] at d;exact .inr (.inl (qC kB p az d))
   .exact .inr (.inr f))
theorem yq (a:iJ y m.heap H):vl y m {m with heap:=H}:=⟨λb o c e=>(a.2 b c).trans e,rfl,rfl⟩
variable {bu:j9->Option eJ}
theorem TZ (h:m.heap.Ns y bu):∀o,m.heap.get? y=some o->¬gc o:=λo e=>by
 refine wZ h λf c d a b _=>?_
 rw [e] at a;obtain rfl:=d5 a;exact rN b
variable {bD:Gens}
theorem Mm (G:gX c) (N:Du aJ=true) (O:q5 r aJ.names=true) (z:∀B i d,sZ (.ListComp a0 (⟨aH,aX,az,0⟩::br) aJ ae) 0 B (.ref i) d=uM aH aX az B (cZ i d) d (.compLoop (.ListComp a0 (⟨aH,aX,az,0⟩::br) aJ ae) 0 B (.ref i) d)) (J:An aJ.names aH=some C) (S:xc aX=true) (E:SE c a r aX g) (R:Pf c a aJ.names az aq) (T:CC c a aJ.names cI cZ (VG PG (eF PG a) (VE PG (eF PG a) D) bD)) (K:∀m,cI m m):
 SE c a r (.ListComp a0 (⟨aH,aX,az,0⟩::br) aJ ae) (.comp (qo r aJ.names) D C g aq bD)/\SU c a r (.ListComp a0 (⟨aH,aX,az,0⟩::br) aJ ae) (.comp (qo r aJ.names) D C g aq bD):=by
 constructor
 .intro A d m st s M t F k h
  rw [eval_ListComp]
  refine CF (kO:=none) (n:=M) G N O z J S E R T K t F k h ?_
  intro i P L x I w j v p n W;refine kf W λf l=>?_
  refine ei f l (λh' y=>?_)
  have H:=yq y
  exact ⟨.ref i,L,.ref i,w.but H n (p.h0 k) (TZ l),⟨λb o e V=>H.keep b o (λq=>by clear G N O z J S E R T K t F k h I w j v n l y H;clear W;subst q;exact V (p o e)) (j.keep b o e V),j.foot⟩,v⟩
 .intro A d m st s M Y u t F k h hu
  show WE c A (do let _ <-Wj (.ListComp a0 (⟨aH,aX,az,0⟩::br) aJ ae) aJ d (firstIterPos (⟨aH,aX,az,0⟩::br) ae) (WR []) false (vW aX d) (some u)) Y s
  refine b5 (er (CF (kO:=some u) (n:=M) (aG:=λ_ x=>Y () x) G N O z J S E R T K t F k h ?_) (λ_ _ q=>dk q) λ_ _ e=>e)
  intro i P L x I w j v p n kl;refine kf kl λf l=>?_
  refine er (hu _ _ L x I w j v) (λ_ km ζ=>?_) λ_ _ e=>e
  refine iP ζ λh1 h2=>?_
  refine yd l λo es ep ho U=>?_
  have X:=h1 P o ho p n
  exact ei f ⟨o,es,ep,X,U⟩ (λh' y=>h2 P _ (yq y) p n λo2 e=>by rw [X] at e;obtain rfl:=d5 e;exact rN U.1)
noncomputable def kR (k:Nat->Nat) (p:Array Nat) (i:Nat):Nat:=k ((p[i]?).getD 0)
noncomputable def yr (k:Nat->Nat) (p:Array Nat) (m:Nat):Prop:=∀i j,i<=j->j<m->kR k p i<=kR k p j
noncomputable def Fq (n:Nat) (p:Array Nat):Prop:=p.toList.Perm (eR n)
variable {cq:Array Nat}
theorem Fq.size (h:Fq a cq):cq.size=a:=by rw [<-eD,h.length_eq,fg]
noncomputable def leB (es:List (Nat×Nat)) (b:Nat):Nat->Nat->Bool
 |0,a=>a==b
 |f+1,a=>a==b||es.any λe=>e.1==a&&leB es b f e.2
variable {aO:Nat->Nat}
theorem Hq {d:List (Nat×Nat)} (h:∀e∈d,aO e.1<=aO e.2):∀f b,leB d a f b=true->aO b<=aO a
 |0,b,q=>by rw [eq_of_beq q];exact eK _
 |f+1,b,q=>((j4 _ _).mp q).elim (λq=>by rw [eq_of_beq q];exact eK _) λq=>by
  refine eS (oz.mp q) λe g c=>?_
  have c:=(eW _ _).mp c
  rw [<-eq_of_beq c.1]
  exact a_ (h e g) (Hq h f _ c.2)
noncomputable def U7 (n:Nat):KasT (Array Nat)->List (Nat×Nat)->List (Nat×Nat)->Bool
 | .ret p,es,ss=>(p.toList.isPerm (eR n)&&(eR (n -1)).all λj=>leB es ((p[j+1]?).getD 0) 4 ((p[j]?).getD 0))||ss.any λe=>leB es e.1 4 e.2
 | .ask i j f,es,ss=>decide (i<n)&&(decide (j<n)&&(U7 n (f true) ((i,j)::es) ((i,j)::ss)&&U7 n (f false) ((j,i)::es) ss))
theorem Mn (h:∀j,j+1<a->kR aO cq j<=kR aO cq (j+1)):yr aO cq a:=λi j c=>Nat.le.rec (motive:=λj _=>j<a->kR aO cq i<=kR aO cq j) (λ_=>eK _) (λ_ d b=>a_ (d (pN b)) (h _ b)) c
theorem Hr {o:Nat->Nat->(Bool->eM->Prop)->eM->Prop} (n:∀i j (C:Bool->eM->Prop),i<a->j<a->C (decide (aO i<aO j)) m->o i j C m) {Q:Array Nat->eM->Prop} (l:∀p,Fq a p->yr aO p a->Q p m):
 ∀t g k,(∀e∈g,aO e.1<=aO e.2)->(∀e∈k,aO e.1<aO e.2)->U7 a t g k=true->t.kasWp o Q m
 | .ret p,g,k,c,d,h=>((j4 _ _).mp h).elim (λh=>by
  have h:=(eW _ _).mp h
  exact l p (List.isPerm_iff.mp h.1) (Mn λj u=>Hq c _ _ (mN.mp h.2 j (eV.mpr (Nat.lt_sub_of_add_lt u))))) λh=>by
  clear n l;refine eS (oz.mp h) λe s b=>?_
  exact absurd (Hq c _ _ b) (Nat.not_le_of_lt (d e s))
 | .ask i j f,g,k,c,d,h=>by
  have h:=(eW _ _).mp h
  have b:=(eW _ _).mp h.2
  have r:=(eW _ _).mp b.2
  refine n i j _ (of_decide_eq_true h.1) (of_decide_eq_true b.1) ?_
  clear h b;clear h;by_cases q:aO i<aO j
  .rw [decide_eq_true q]
   exact Hr n l (f true) _ _ (vK.mpr ⟨eB q,c⟩) (vK.mpr ⟨q,d⟩) r.1
  .rw [decide_eq_false q]
   exact Hr n l (f false) _ _ (vK.mpr ⟨i6.mp q,c⟩) d r.2
theorem VY:∀n<6,U7 n (kas_sort n) [] []=true:=by decide+kernel
theorem IQ {b:Nat->Nat->(Bool->eM->Prop)->eM->Prop} (d:∀i j (C:Bool->eM->Prop),i<a->j<a->C (decide (aO i<aO j)) m->b i j C m) {Q:Array Nat->eM->Prop} (e:a<6) (c:∀p,Fq a p->yr aO p a->Q p m):(kas_sort a).kasWp b Q m:=
 Hr d c _ [] [] (Jz _) (Jz _) (VY a e)
theorem Lt.ne (h:Lt i af):i≠af:=by
 induction h with
 |int h=>intro e;(injection e with e;subst e);exact absurd h (x6 _)
 |tup p x y r s h a=>
  intro e
  injection e with e
  have:=List.append_cancel_left e
  exact a (ft this).1
 |len p y s=>
  intro e
  injection e with e
  have:=congrArg fk e
  simp at this
theorem Lt.irrefl (h:Lt i i):False:=h.ne rfl
open Mine.Lt renaming irrefl->Sp
theorem tr:Lt (.tup (i::l)) (.tup (af::aN))↔Lt i af\/(i=af/\Lt (.tup l) (.tup aN)):=by
 constructor
 .intro h
  generalize a:AV.tup (i::l)=v at h
  generalize b:AV.tup (af::aN)=w at h
  induction h using Lt.casesOn with
  |int _=>contradiction
  |tup p x y r s h=>
   injection a with a;injection b with b
   induction p using el with
   |nil=>
    refine KZ i l (ft a) ?_
    refine KZ af aN (ft b) ?_
    exact .inl h
   |cons z p=>
    refine KZ i l (ft a) ?_
    clear a;refine KZ af aN (ft b) ?_
    exact .inr ⟨rfl,.tup p x y r s h⟩
  |len p y s=>
   injection a with a;injection b with b
   subst a
   refine KZ af aN (ft b) ?_
   exact .inr ⟨rfl,.len l y s⟩
 .rintro (h |⟨rfl,h⟩)
  .exact .tup [] i af l aN h
  .generalize a:AV.tup l=v at h
   generalize b:AV.tup aN=w at h
   induction h using Lt.casesOn with
   |int _=>contradiction
   |tup p x y r s h=>
    injection a with a;injection b with b
    subst a b
    exact .tup (i::p) x y r s h
   |len p y s=>
    injection a with a;injection b with b
    subst a b
    exact .len (i::l) y s
theorem lt_nil_cons:Lt (.tup []) (.tup (i::l)):=.len [] i l
theorem not_lt_nil:¬Lt i (.tup []):=by
 intro h
 generalize a:AV.tup []=w at h
 induction h using Lt.casesOn with
 |int _=>contradiction
 |tup p i y r s h=>injection a with a;have:=congrArg fk a;simp at this
 |len p y s=>injection a with a;have:=congrArg fk a;simp at this
theorem lt_int:Lt (.int q) (.int aB)↔q<aB:=⟨λh=>by rcases h with ⟨⟩;assumption,.int⟩
theorem zg:∀(n:Nat) {a b c:AV},oR n a->Lt a b->Lt b c->Lt a c:=by
 intro n
 induction n with
 |zero=>
  intro a b c h e d
  cases h with
  |int _ i=>
   cases e with
   |int e=>cases d with |int d=>exact .int (zC e d)
 |succ n o=>
  intro a b c h e d
  cases h with
  |int _ i=>
   cases e with
   |int e=>cases d with |int d=>exact .int (zC e d)
  |tup _ k j=>
   obtain ⟨g,rfl⟩:∃g,b= .tup g:=by rcases e with ⟨⟩<;>exact ⟨_,rfl⟩
   obtain ⟨f,rfl⟩:∃f,c= .tup f:=by rcases d with ⟨⟩<;>exact ⟨_,rfl⟩
   induction k generalizing g f with
   |nil=>
    induction f using el with
    |nil=>exact absurd d not_lt_nil
    |cons z f=>exact lt_nil_cons
   |cons x k l=>
    induction g using el with
    |nil=>exact absurd e not_lt_nil
    |cons y g=>
     induction f using el with
     |nil=>exact absurd d not_lt_nil
     |cons z f=>
      rw [tr] at e d⊢
      rcases e with e |⟨rfl,e⟩
      .rcases d with d |⟨rfl,d⟩
       .exact .inl (o (j x (.head _)) e d)
       .exact .inl e
      .rcases d with d |⟨rfl,d⟩
       .exact .inl d
       .exact .inr ⟨rfl,l (λu m=>j u (.tail _ m)) _ e _ d⟩
theorem gY.symm (h:gY i af):gY af i:=by
 rcases h with h |h |h
 .exact .inr (.inr h)
 .exact .inr (.inl h.symm)
 .exact .inl h
theorem oP (h:gY (.tup (i::l)) (.tup (af::aN))):gY i af/\(i=af->gY (.tup l) (.tup aN)):=by
 rcases h with h |h |h
 .rcases tr.mp h with g |⟨rfl,g⟩
  .exact ⟨.inl g,λe=>absurd e g.ne⟩
  .exact ⟨.inr (.inl rfl),λ_=>.inl g⟩
 .injection h with h
  refine KZ i l (ft h) ?_
  exact ⟨.inr (.inl rfl),λ_=>.inr (.inl rfl)⟩
 .rcases tr.mp h with g |⟨rfl,g⟩
  .exact ⟨.inr (.inr g),λe=>absurd e.symm g.ne⟩
  .exact ⟨.inr (.inl rfl),λ_=>.inr (.inr g)⟩
theorem IS (b:oR a i) (e:oR d af) (l:RV c m.heap J i) (g:RV c m.heap aV af) (f:L.units+a<vC) (h:cR (decide (i=af)) m):gf (hX c.prog c.w) L (eqBool J aV) cR aG m:=by
 refine kf (j0 b.plain l) λn j=>?_
 refine kf (j0 e.plain g) λo k=>?_
 refine eqBoolOverData _ _ _ _ _ _ _ _ _ _ _ _ j k (iy b.plain).1 (iy e.plain).1 ?_ ?_
 .have:=(iy b.plain).2
  exact c_ (d7 (a_ (g9 _ _) this) _) f
 .have d:mZ (toPy i) (toPy af)=decide (i=af):=by
   have:=xg b.plain e.plain
   by_cases q:i=af
   .rw [decide_eq_true q];exact this.mpr q
   .rw [decide_eq_false q]
    induction z:mZ (toPy i) (toPy af) with
    |false=>rfl
    |true=>exact absurd (this.mp z) q
  rw [d];exact h
theorem RA {B:Base} {E:eJ->eM->Prop}:∀(d:Nat) {A:ji} {s:eM} {v w:eJ} {x y:AV} {Q:eJ->eM->Prop},oR d x->oR d y->RV B s.heap v x->RV B s.heap w y->gY x y->A.units+10*d+10<vC->
 (∀c:Bool,(c=true↔Lt x y)->Q (.bool c) s)->gf (hX B.prog B.w) A (richCompare .Lt v w) Q E s:=by
 intro d
 induction d with
 |zero=>
  intro A s v w x y Q hx hy qv qw hc hu h
  cases hx with
  |int _ i=>
   cases hy with
   |int _ j=>
    refine r5 v (gr qv) λt=>?_
    refine r5 w (gr qw) λu=>?_
    exact WO (h _ (by rw [decide_eq_true_iff];exact Mine.lt_int.symm))
 |succ d ih=>
  intro A s v w x y Q hx hy qv qw hc hu h
  cases hx with
  |int _ i=>
   cases hy with
   |int _ j=>
    refine r5 v (gr qv) λt=>?_
    refine r5 w (gr qw) λu=>?_
    exact WO (h _ (by rw [decide_eq_true_iff];exact Mine.lt_int.symm))
   |tup _ ys hy=>
    clear ih hu qv hy qw h;rcases hc with hc |hc |hc<;>contradiction
  |tup _ xs hx=>
   cases hy with
   |int _ j=>clear ih hu hx qv qw h;rcases hc with hc |hc |hc<;>contradiction
   |tup _ ys hy=>
    refine g6 v (iG qv) λa xi n1 ea la ra=>?_
    refine g6 w (iG qw) λb yi n2 eb lb rb=>?_
    refine wpAny_richCompare_same_room (op:=.Lt) (oS ea) (oS eb) Ex (nq Ex (oS ea) Zn ?_ (Zq _ _)) (by exact u0 hu)
    show gf _ _ (Ze (.ref b) (.type "tuple")>>= _) _ _ s
    refine b5 (SM (oS eb) N4 ?_)
    simp only [wU,fY,if_false]
    refine b5 (z9 ea rfl ?_)
    refine b5 (z9 eb rfl ?_)
    refine b5 ?_
    refine qR _
     (λrest r s'=>r.1=none/\s'=s/\∃vs ws us zs,rest=List.zip vs ws/\h_ B s.heap vs us/\h_ B s.heap ws zs/\(∀u∈us,oR d u)/\(∀u∈zs,oR d u)/\gY (.tup us) (.tup zs)/\(Lt (.tup us) (.tup zs)↔Lt (.tup xs) (.tup ys))/\
      (decide (xi.size<yi.size)=decide (vs.length<ws.length)))
     _ ?_ ?_ _ _ ⟨rfl,rfl,xi.toList,yi.toList,xs,ys,rfl,ra,rb,hx,hy,hc,Iff.rfl,(by simp)⟩
    .intro zr1 rest r s' zr2;obtain ⟨p,q⟩:=zr1;refine tU s' zr2 λhr vs ws us zs hz hv hw hu1 hz1 hcm hiff hlen=>?_
     induction hv using h_.casesOn with
     |nil=>simp at hz
     | @cons p' u' vs us h1 hv=>
      induction hw using h_.casesOn with
      |nil=>simp at hz
      | @cons q' z' ws zs h2 hw=>
       simp only [pe,iA,BM] at hz
       refine Vu rest hz λzz1=>?_;refine KZ p q zz1 ?_
       refine iP (oP hcm) λc1 c2=>?_
       refine b5 (IS (hu1 u' (.head _)) (hz1 z' (.head _)) h1 h2 (by show A.units+1+d<vC;exact u2 hu) ?_)
       by_cases he:u'=z'
       .clear ih hu hx hy hc la lb hr qv ea ra qw eb rb hcm h1 h2 c1;subst he
        rw [decide_eq_true rfl]
        simp only [wU,fY,if_false]
        refine dk ⟨rfl,rfl,vs,ws,us,zs,rfl,hv,hw,(λz hz=>hu1 z (.tail _ hz)),(λz hz=>hz1 z (.tail _ hz)),(c2 rfl),?_,(by simpa using hlen)⟩
        rw [<-hiff,tr]
        exact ⟨λh=>.inr ⟨rfl,h⟩,λh=>h.elim (λh=>h.irrefl.elim) λh=>h.2⟩
       .rw [decide_eq_false he]
        simp only [Bool.not_false,if_true]
        refine b5 (nI ?_)
        refine b5 (ih (hu1 u' (.head _)) (hz1 z' (.head _)) h1 h2 c1 (by show A.units+1+10*d+10<vC;exact u1 hu) λc hcz=>?_)
        refine b5 (dk (dk (dk (gp _ rfl (by (repeat intro _);contradiction) (h c ?_)))))
        rw [hcz,<-hiff,tr]
        exact ⟨.inl,λh=>h.elim id λh=>absurd h.1 he⟩
    .intro zr3 s' zr4;obtain ⟨r1,r2⟩:=zr3;refine tU s' zr4 λhr vs ws us zs hz hv hw hu1 hz1 hcm hiff hlen=>?_
     simp only at hr
     clear zr4;subst hr
     show gf _ _ (ret (.bool (decide (xi.size<yi.size)))) _ _ _
     rw [hlen]
     refine dk (gp _ rfl (by (repeat intro _);contradiction) (h _ ?_))
     rw [<-hiff,decide_eq_true_iff]
     clear ih hu hx hy hc la lb qv ea ra qw eb rb hu1 hz1 hcm hiff hlen;induction hv using h_.casesOn with
     |nil=>
      clear hz;induction hw using h_.casesOn with
      |nil=>exact ⟨λh=>absurd h (jm _),λh=>absurd h not_lt_nil⟩
      |cons _ _=>exact ⟨λ_=>lt_nil_cons,λ_=>fC _⟩
     |cons _ _=>
      induction hw using h_.casesOn with
      |nil=>exact ⟨λh=>absurd h (pd _),λh=>absurd h not_lt_nil⟩
      |cons _ _=>simp at hz
theorem Ou (h:a<6):a<=sizeLine:=a_ (eB h) (by rw [nG];decide)
theorem T3 (h:I<6) (b:d<I) (e:a=min d o):a<=sizeLine:=n1 e (a_ (g9 _ _) (eB (ej b (Ou h))))
theorem vl.trans (x:vl y m ab) (a:vl y ab aU):vl y m aU:=⟨λb o c e=>a.keep b o c (x.keep b o c e),a.gens.trans x.gens,a.os.trans x.os⟩
theorem fI.but (g:fI m ab):vl y m ab:=⟨λb o _ e=>g.keep b o e,g.gens,g.os⟩
noncomputable def Mo (B:Base) (A:ji) (a:g0) (ks:List eJ) (k:Nat->Nat) (s:eM):Prop:=
 2<=ks.length->∀s',vl a s s'->gf (hX B.prog B.w) A (keyKind' ks.toArray) (λκ s''=>s''=s'/\∀i j (C:Bool->eM->Prop),i<ks.length->j<ks.length->C (decide (k i<k j)) s'->Sl B.prog B.w A κ ks i j C s') (λ_ _=>False) s'
theorem DL {P:UC->eM->Prop} (t:m.heap.get? y=some (gw "list" aj.toArray a)) (s:aj.length<6) (B:Mo c L y aj aO m) (h:∀(d:Array Nat) g H,Fq aj.length d->yr aO d aj.length->vl y m g->g.heap.get? y=some (listOf (jl (d.toList.map λi=>aj.getD i jr)) H)->P (.done (.ret .none)) g):
 gf (hX c.prog c.w) L (vZ.«list.sort» ⟨[.ref y],[]⟩) P aG m:=by
 have Z:y<m.heap.objs.size:=rv t
 have M:=nG
 obtain ⟨q,x⟩:∃q,(m.heap.update y (fL λ_=>(#[]:Array eJ))).get? y=some (gw "list" #[] q):=oq _ (rX t λ_=>#[])
 have A:=gM m.heap y (fL λ_=>(#[]:Array eJ))
 rw [list_sort_plain]
 refine b5 (Lc t rfl ?_)
 refine b5 (rx t rfl ?_ (by rw [j6];exact Ou s) (fA _))
 refine b5 (EA x rfl ?_)
 refine b5 (Vc ?_ (by show aj.length<=_;exact Ou s))
 refine b5 (zM ?_ (fA _))
 refine f7 ?_
 show gf _ L _ P aG {m with heap:=((m.heap.update y (fL λ_=>(#[]:Array eJ))).push (gw "tuple" aj.toArray 0)).push (gw "list" #[] 0)}
 have F:(((m.heap.update y (fL λ_=>(#[]:Array eJ))).push (gw "tuple" aj.toArray 0)).push (gw "list" #[] 0)).get? y=some (gw "list" #[] q):=fq _ (fq _ x)
 have n:vl y m {m with heap:=((m.heap.update y (fL λ_=>(#[]:Array eJ))).push (gw "tuple" aj.toArray 0)).push (gw "list" #[] 0)}:=
  ⟨λb o n e=>fq _ (fq _ ((A.2 b n).trans e)),rfl,rfl⟩
 generalize C:({m with heap:=((m.heap.update y (fL λ_=>(#[]:Array eJ))).push (gw "tuple" aj.toArray 0)).push (gw "list" #[] 0)}:eM)=w at n⊢
 have v:w.heap.get? y=some (gw "list" #[] q):=by rw [<-C];exact F
 dsimp only
 have E:∀(d:Array Nat) k,Fq aj.length d->yr aO d aj.length->k=w->gf (hX c.prog c.w) L (do
  let W:=(<-seqEpoch y)!=q
  UD (.ref y) λ_=>jl (d.toList.map λi=>aj.getD i jr)
  if W then rule "list.sort.modified";raiseError "ValueError" "list modified during sort"
  ret .none) P aG k:=by
  intro d k l r O;subst O
  have T:(jl (d.toList.map λi=>aj.getD i jr)).size=aj.length:=by rw [j6,bb,eD,l.size]
  refine b5 (EA v rfl ?_)
  refine b5 (rx v rfl ?_ (fA _) (a_ (gy T) (by exact f5 (Ou s))))
  simp only [bne_self_eq_false,fY,if_false]
  have J:=gM k.heap y (fL λ_=>jl (d.toList.map λi=>aj.getD i jr))
  exact dk (h d _ _ l r (n.trans (yq J)) (rX v λ_=>jl (d.toList.map λi=>aj.getD i jr)))
 by_cases f:aj.toArray.size<2
 .rw [if_pos f,if_pos f]
  refine b5 (dk ?_)
  rw [StateT.run_pure]
  refine b5 (dk ?_)
  have f:aj.length<2:=by simpa using f
  have:=E (eR aj.length).toArray w (by unfold Fq;simp) (λi j I V=>by rw [show i=j by exact Wr f I V];exact eK _) rfl
  have e:jl ((eR aj.length).toArray.toList.map λi=>aj.getD i jr)=(aj.toArray.zip aj.toArray).map (·.2):=by
   refine (OB (ks:=aj) (st:=SortSt.mk' general' (aj.toArray.zip aj.toArray) #[] 7 none) (p:=(eR aj.length).toArray) rfl ?_).symm
   have e:=kas_range (aj.toArray.zip aj.toArray)
   rw [show (aj.toArray.zip aj.toArray).size=aj.length by simp] at e
   exact e.symm
  rw [e] at this
  exact this
 .rw [if_neg f,if_neg f]
  have f:2<=aj.length:=by simpa using f
  refine b5 (er (B f w n) (λκ k D=>?_) λ_ _ e=>e.elim)
  clear t B h Z M x A F C n v;refine iP D λK hc=>?_
  clear D;subst K
  refine b5 (er (kat_run (ks:=aj) (vs:=aj) (Q:=λu g=>∃d,Fq aj.length d/\yr aO d aj.length/\arrOf u=d.map (kas_item (aj.toArray.zip aj.toArray))/\Vp u=none/\g=k) (G:=λd g=>Fq aj.length d/\yr aO d aj.length/\g=k) rfl f (ej s (by decide))
   (λd u g _ X a3 z=>⟨d,z.1,z.2.1,X,a3,z.2.2⟩) (IQ hc (by exact s) λd l r=>(iD l r rfl))) ?_ λ_ _ e=>e)
  intro U g Y;obtain ⟨⟨⟩,u⟩:=U;refine zT Y λd l r S R N=>?_
  dsimp only
  rw [OB rfl S,R]
  exact E d g l r N
open Classical in
noncomputable def rk (xs:List AV) (i:Nat):Nat:=(eR xs.length).countP λt=>decide (Lt (xs.getD t .none) (xs.getD i .none))
variable {e9:h->Bool}
theorem J3 {q:h->Bool} (d:∀x∈dq,e9 x=true->q x=true) (a:dn∈dq) (g:e9 dn=false) (f:q dn=true):dq.countP e9<dq.countP q:=by
 induction dq with
 |nil=>exact (eg a).elim
 |cons x r j=>
  have i:r.countP e9<=r.countP q:=List.countP_mono_left λy b=>d y (.tail _ b)
  rcases eL.mp a with rfl |a
  .rw [tR (by rw [g];simp),pj f]
   exact N8 i
  .have:=j (λy b=>d y (.tail _ b)) a
   by_cases c:e9 x=true
   .rw [pj c,pj (d x (.head _) c)];exact qF this 1
   .rw [tR c]
    by_cases e:q x=true
    .rw [pj e];exact Ae 1 this
    .rw [tR e];exact this
theorem j1 (b:a<dq.length):dq.getD a dn=dq[a]:=by simp [b]
theorem QB (k:∀x∈l,oR a x) (i:l.Pairwise gY) (b:d<l.length) (c:o<l.length):rk l d<rk l o↔Lt (l.getD d .none) (l.getD o .none):=by
 classical
 have f:∀{d o},d<l.length->o<l.length->Lt (l.getD d .none) (l.getD o .none)->rk l d<rk l o:=λ{d o} b c h=>by
  refine J3 (dn:=d) (λt e g=>?_) (eV.mpr b) ?_ ?_
  .have e:=eV.mp e
   rw [decide_eq_true_iff] at g⊢
   exact zg a (by rw [j1 e];exact k _ (fP _)) g h
  .rw [decide_eq_false_iff_not];exact Sp
  .rw [decide_eq_true_iff];exact h
 refine ⟨λh=>?_,f b c⟩
 have j:gY (l.getD d .none) (l.getD o .none):=by
  rw [j1 b,j1 c]
  rcases zz d o with q |q |q
  .exact oE.mp i d o b c q
  .subst q;exact .inr (.inl rfl)
  .exact (oE.mp i o d c b q).symm
 rcases j with q |q |q
 .exact q
 .exfalso
  have:rk l d=rk l o:=by unfold rk;rw [q]
  exact rC h this
 .have:=f c b q
  exact absurd h (Nat.lt_asymm this)
theorem CG {B:Base} {s:eM} {A:ji} {d:Nat} {b fin:Bool} (hu:A.units+10*d+10<vC):∀{vs ws:List eJ} {us zs:List AV} {i:Nat} {Q:Bool->eM->Prop},h_ B s.heap vs us->h_ B s.heap ws zs->(∀u∈us,oR d u)->(∀u∈zs,oR d u)->gY (.tup us) (.tup zs)->
 (b=true->i=0->∀u z us' zs',us=u::us'->zs=z::zs'->(∃n,u= .int n)/\∃n,z= .int n)->(fin=decide (vs.length<ws.length))->(∀c:Bool,(c=true↔Lt (.tup us) (.tup zs))->Q c s)->KatLex B.prog B.w A b fin Q (vs.zip ws) i s
 |[],[],us,zs,i,Q,hv,hw,h1,h2,hc,hb,hf,h=>by
  clear hu h1 h2 hc hb;cases hv;cases hw;subst hf
  exact h _ ⟨λh=>by simp at h,λh=>absurd h not_lt_nil⟩
 |[],w::ws,us,zs,i,Q,hv,hw,h1,h2,hc,hb,hf,h=>by
  clear hu h1 h2 hc hb;cases hv;cases hw;clear a a_1;subst hf
  exact h _ ⟨λ_=>lt_nil_cons,λ_=>by simp⟩
 |v::vs,[],us,zs,i,Q,hv,hw,h1,h2,hc,hb,hf,h=>by
  clear hu h1 h2 hc hb;cases hv;clear a a_1;cases hw;subst hf
  exact h _ ⟨λh=>by simp at h,λh=>absurd h not_lt_nil⟩
 |v::vs,w::ws,us,zs,i,Q,hv,hw,h1,h2,hc,hb,hf,h=>by
  cases hv with
  | @cons _ u _ us q1 hv=>
   cases hw with
   | @cons _ z _ zs q2 hw=>
    refine iP (oP hc) λc1 c2=>?_
    show KatLex B.prog B.w A b fin Q ((v,w)::vs.zip ws) i s
    refine kat_cons (IS (h1 u (.head _)) (h2 z (.head _)) q1 q2 (by exact u3 hu) ?_)
    by_cases he:u=z
    .clear q1 q2 hc hb c1;subst he
     rw [decide_eq_true rfl]
     refine kat_yes (CG hu hv hw (λy hy=>h1 y (.tail _ hy)) (λy hy=>h2 y (.tail _ hy)) (c2 rfl) (λ_ h0=>absurd h0 (t7 _)) (by simpa using hf) λc hcz=>h c ?_)
     rw [hcz,tr]
     exact ⟨λh=>.inr ⟨rfl,h⟩,λh=>h.elim (λh=>h.irrefl.elim) λh=>h.2⟩
    .rw [decide_eq_false he]
     have hlt:∀c:Bool,(c=true↔Lt u z)->Q c s:=λc hcz=>h c (by
      rw [hcz,tr]
      exact ⟨.inl,λh=>h.elim id λh=>absurd h.1 he⟩)
     refine kat_no ?_
     by_cases hbi:(b&&i==0)=true
     .rw [hbi]
      simp only [eW,beq_iff_eq] at hbi
      clear hu hf hv h1 hw h2 hc h c1 c2 he;refine iP (hb hbi.1 hbi.2 _ _ _ _ rfl rfl) λzz1 zz2=>?_;refine kf zz1 λn zz1=>?_;subst zz1;refine kf zz2 λn' zz1=>?_;clear zz2;subst zz1
      clear hbi hb;refine r5 v (gr q1) λt=>?_
      clear q1;refine r5 w (gr q2) λt'=>?_
      exact oneLt_int (hlt _ (by rw [decide_eq_true_iff];exact Mine.lt_int.symm))
     .rw [mP] at hbi
      rw [hbi]
      refine kat_one v w ?_
      exact RA d (h1 u (.head _)) (h2 z (.head _)) q1 q2 c1 hu λc hcz=>hlt c hcz
theorem sG (q:h_ c H aj l) (b:a<aj.length):RV c H (aj.getD a .none) (l.getD a .none):=by
 have d:=q.length
 rw [j1 b,j1 (by exact fD b d)]
 obtain ⟨v,e,r⟩:=q.get (i:=a) (x:=l[a]) (dj (by exact fD b d))
 rw [dj b] at e
 obtain rfl:=d5 e;exact r
theorem Mp (q:h_ c H aj l) (o:∀j∈l,∃y b,j= .tup (y::b)):∃d,KatTups H aj d/\d.length=aj.length/\∀f∈d,∃y b,AV.tup (y::b)∈l/\RV c H f y:=by
 induction aj generalizing l with
 |nil=>cases q;exact gp [] trivial rfl (by (repeat intro _);contradiction)
 |cons k aj u=>
  cases q with
  | @cons _ j _ l q r=>
   obtain ⟨d,s,t,F⟩:=u r λy v=>o y (.tail _ v)
   refine qY (o j (.head _)) λy b w=>?_;subst w
   refine g6 k (iG q) λa G n e D p=>?_
   refine eS (p.get (i:=0) (x:=y) rfl) λf m E=>?_
   rw [gG] at m
   refine gp (f::d) (KatTups.cons e rfl rfl m s) (congrArg rY t) (λg h=>?_)
   clear u r s t o q e D p m;rcases eL.mp h with rfl |h
   .exact nE y b (.head _) E
   .refine i_ (F g h) λz A C B=>?_
    exact nE z A (.tail _ C) B
theorem Fs (h:l.Pairwise gY):∀x∈l,∀y∈l,gY x y:=by
 induction h with
 |nil=>intro x b;exact (eg b).elim
 | @cons a i e _ g=>
  intro x b y c
  rcases eL.mp b with f |b
  .rcases eL.mp c with d |c
   .exact .inr (.inl (f.trans d.symm))
   .rw [f];exact e y c
  .rcases eL.mp c with d |c
   .rw [d];exact (e x b).symm
   .exact g x b y c
theorem pU (h:q0 l):∀x∈l,oR 4 x:=λx a=>by
 rcases h with h |h
 .refine r5 x (h x a) λi=>?_;exact .int _ i
 .exact (h x a).1
theorem Ft {B:Base} {s:eM} {A:ji} {a:g0} {ks:List eJ} {xs:List AV} (hu:A.units+60<vC) (q:h_ B s.heap ks xs) (hs:q0 xs) (hc:xs.Pairwise gY) (hf:∀o,s.heap.get? a=some o->¬gc o):Mo B A a ks (rk xs) s:=λh2 s' hb=>by
 have q':h_ B s'.heap ks xs:=q.but hb hf
 have hl:=q'.length
 have hk:=pU hs
 have fin:∀{i j:Nat} {c:Bool} {C:Bool->eM->Prop},i<ks.length->j<ks.length->C (decide (rk xs i<rk xs j)) s'->(c=true↔Lt (xs.getD i .none) (xs.getD j .none))->C c s':=λ{i j c C} hi hj h hcz=>by
  have:c=decide (rk xs i<rk xs j):=by
   rw [BH,hcz,decide_eq_true_iff]
   exact (QB hk hc (by exact fD hi hl) (by exact fD hj hl)).symm
  rw [this];exact h
 rcases hs with hs |hs
 .refine kas_kind (T:=.type "int") h2 (λv hv=>?_) (by decide) (by decide) ⟨rfl,λi j C hi hj h=>?_⟩
  .clear hu q hc hf h2 hb hk fin;obtain ⟨i,hi,rfl⟩:=qT hv
   have:=sG q' hi
   rw [j1 hi,j1 (by exact fD hi hl)] at this
   clear q' hv;refine kf (hs xs[i] (fP _)) λn hn=>?_
   rw [hn] at this
   refine kf (gr this) λt ht=>?_
   rw [ht]
   exact nB rfl
  .unfold Sl
   have r1:=sG q' hi
   have r2:=sG q' hj
   refine kf (hs (xs.getD i .none) (by rw [j1 (by exact fD hi hl)];exact fP _)) λn1 e1=>?_
   refine kf (hs (xs.getD j .none) (by rw [j1 (by exact fD hj hl)];exact fP _)) λn2 e2=>?_
   have hfin:=fin (c:=decide (n1<n2)) hi hj h (by rw [e1,e2,decide_eq_true_iff];exact Mine.lt_int.symm)
   rw [e1] at r1
   rw [e2] at r2
   refine kf (gr r1) λt1 e1=>?_
   refine kf (gr r2) λt2 e2=>?_
   rw [e1,e2,keyLt'_oneType]
   exact oneLt_int hfin
 .have hall:=Fs hc
  obtain ⟨fs,t1,t2,t3⟩:=Mp q' λx hx=>(hs x hx).2
  have kinds:(∀y ys,AV.tup (y::ys)∈xs->∃n,y= .int n)\/(∀y ys,AV.tup (y::ys)∈xs->∃ws,y= .tup ws):=by
   refine Cf (hs (xs[0]'(by exact fD (pN h2) hl)) (fP _)) λhk0 y0 ys0 e0=>?_
   have h0:AV.tup (y0::ys0)∈xs:=e0▸fP _
   have hd:oR 3 y0:=by
    rw [e0] at hk0
    cases hk0 with
    |tup _ _ hx=>exact hx y0 (.head _)
   cases hd with
   |int _ i=>
    refine .inl λy ys hy=>?_
    have c:=(oP (hall _ h0 _ hy)).1
    clear hu q hc hf h2 hb q' hl hk fin hs hall t1 t2 t3 hk0 e0 h0 hy;rcases c with c |c |c
    .rcases c with ⟨⟩;exact ⟨_,rfl⟩
    .exact ⟨_,c.symm⟩
    .rcases c with ⟨⟩;exact ⟨_,rfl⟩
   |tup _ us _=>
    refine .inr λy ys hy=>?_
    have c:=(oP (hall _ h0 _ hy)).1
    clear hu q hc hf h2 hb q' hl hk fin hs hall t1 t2 t3 hk0 e0 h0 hy;clear a_1;rcases c with c |c |c
    .rcases c with ⟨⟩<;>exact ⟨_,rfl⟩
    .exact ⟨_,c.symm⟩
    .cases c<;>exact ⟨_,rfl⟩
  have ask:∀(b:Bool),(b=true->∀y ys,AV.tup (y::ys)∈xs->∃n,y= .int n)->∀i j (C:Bool->eM->Prop),i<ks.length->j<ks.length->C (decide (rk xs i<rk xs j)) s'->Sl B.prog B.w A (tuples' b) ks i j C s':=λb hb i j C hi hj h=>by
   unfold Sl
   have m1:xs.getD i .none∈xs:=by rw [j1 (by exact fD hi hl)];exact fP _
   have m2:xs.getD j .none∈xs:=by rw [j1 (by exact fD hj hl)];exact fP _
   have r1:=sG q' hi
   have r2:=sG q' hj
   have hcm:=hall _ m1 _ m2
   have hfin:=λc=>fin (c:=c) hi hj h
   refine Cf (hs _ m1) λk1 y1 ys1 e1=>?_
   refine Cf (hs _ m2) λk2 y2 ys2 e2=>?_
   rw [e1] at k1 m1
   rw [e2] at k2 m2
   rw [e1,e2] at hfin hcm
   rw [e1] at r1
   rw [e2] at r2
   refine nc (iG r1) λa1 i1 n1 v1 o1 _ p1=>?_
   refine nc (iG r2) λa2 i2 n2 v2 o2 _ p2=>?_
   rw [v1,v2]
   cases k1 with
   |tup _ _ k1=>
    cases k2 with
    |tup _ _ k2=>
     refine kat_lt o1 rfl o2 rfl (CG (d:=3) (by exact ul 40 hu rfl) p1 p2 k1 k2 hcm (λhb' _ u z us' zs' eu ez=>?_) (by simp) hfin)
     obtain ⟨rfl,rfl⟩:=ft eu
     obtain ⟨rfl,rfl⟩:=ft ez
     exact ⟨hb hb' _ _ m1,hb hb' _ _ m2⟩
  rcases kinds with hi |ht
  .refine kat_kind (T:=.type "int") t1 (by exact EU (pN h2) t2) (λv hv=>?_) (by decide) ⟨rfl,ask _ λ_=>hi⟩
   refine i_ (t3 v hv) λy ys hy p=>?_
   refine kf (hi y ys hy) λn zz1=>?_;subst zz1
   refine r5 v (gr p) λt=>?_
   exact nB rfl
  .refine kat_kind (T:=.type "tuple") t1 (by exact EU (pN h2) t2) (λv hv=>?_) (by decide) ⟨rfl,ask _ λh=>absurd h (by decide)⟩
   refine i_ (t3 v hv) λy ys hy p=>?_
   refine kf (ht y ys hy) λus zz1=>?_;subst zz1
   refine g6 v (iG p) λa1 i1 n1 o1 _ _=>?_
   exact (Looks.ld o1).andThen .now
theorem sf {r:AV->AV->Prop} (i:∀a b,r a b->r b a->a=b):∀{f d:List AV},f.Perm d->f.Pairwise r->d.Pairwise r->f=d
 |[],d,c,_,_=>by rw [c.nil_eq]
 |x::f,[],c,_,_=>by have:=c.length_eq;simp at this
 |x::f,y::d,c,g,h=>by
  have e:x=y:=by
   rcases eL.mp (c.mem_iff.mp (.head _)) with e |j
   .exact e
   .rcases eL.mp (c.mem_iff.mpr (.head _)) with e |k
    .exact e.symm
    .exact i x y ((jg.mp g).1 y k) ((jg.mp h).1 x j)
  subst e
  rw [sf i ((List.perm_cons x).mp c) (jg.mp g).2 (jg.mp h).2]
theorem CH (d:Fq aj.length cq) (c:dq.length=aj.length):(cq.toList.map λi=>dq.getD i dn).Perm dq:=by
 have a:(cq.toList.map λi=>dq.getD i dn).Perm ((eR aj.length).map λi=>dq.getD i dn):=d.map _
 refine a.trans (W9 ?_)
 apply List.ext_getElem
 .simp [c]
 .intro i a b
  simp [b]
theorem zh (k:l.length=a) (m:Fq a cq) (z:yr (rk l) cq a) (C:∀c∈l,oR d c) (u:l.Pairwise gY):
 (cq.toList.map λi=>l.getD i .none).Pairwise λo b=>Lt o b\/o=b:=by
 rw [oE]
 intro i j B A v
 rw [zN,zN]
 have f:cq.toList.length=a:=by rw [eD,m.size]
 have n:i<a:=by simpa [f,m.size] using B
 have h:j<a:=by simpa [f,m.size] using A
 have r:∀{c} (g:c<cq.toList.length),cq.toList[c]<a:=λg=>eV.mp (m.mem_iff.mp (fP g))
 have t:=z i j (eB v) h
 have e:∀{c} (g:c<a),kR (rk l) cq c=rk l (cq.toList[c]'(by exact EU g f)):=λ{c} g=>by
  unfold kR
  rw [<-gG,dj (by exact EU g f)];rfl
 rw [e n,e h] at t
 have p:=r (c:=i) (by exact EU n f)
 have s:=r (c:=j) (by exact EU h f)
 have w:=Fs u (l.getD (cq.toList[i]'(by exact EU n f)) .none) (by rw [j1 (by exact EU p k)];exact fP _) (l.getD (cq.toList[j]'(by exact EU h f)) .none) (by rw [j1 (by exact EU s k)];exact fP _)
 rcases w with q |q |q
 .exact .inl q
 .exact .inr q
 .have:=(QB C u (by exact EU s k) (by exact EU p k)).mpr q
  exact absurd t (ya.mpr this)
theorem xu (d:oR a i) (b:Lt i af\/i=af) (c:Lt af i\/af=i):i=af:=by
 rcases b with b |b
 .rcases c with c |c
  .exact ((zg a d b c).irrefl).elim
  .exact c.symm
 .exact b
theorem Fu (a:aj.length=l.length) (q:∀i,i<aj.length->RV c H (aj.getD i .none) (l.getD i .none)):h_ c H aj l:=by
 induction aj generalizing l with
 |nil=>clear q;induction l using el with
  |nil=>exact .nil
  |cons _ _=>contradiction
 |cons v aj b=>
  induction l using el with
  |nil=>contradiction
  |cons x l=>exact .cons (q 0 (by simp)) (b (by simpa using a) λi d=>q (i+1) (by simpa using d))
theorem Fv (q:h_ c H aj l) (a:∀i∈C,i<aj.length):h_ c H (C.map λi=>aj.getD i .none) (C.map λi=>l.getD i .none):=by
 induction C with
 |nil=>exact .nil
 |cons i C b=>exact .cons (sG q (a i (.head _))) (b λj d=>a j (.tail _ d))
theorem vR (M:gX c) (H:L.handled=none) (r:R c b m) (x:RV c m.heap J i) (h:pq b cX i) {Q:List eJ->eM->Prop} (v:∀y n w,fI m w->h_ c w.heap y n->cX n->y.length<=fG->Q y w):gf (hX c.prog c.w) L (collect J) Q aG m:=by
 induction h with
 | @tup n h=>
  refine g6 J (iG x) λa U k e l q=>?_
  refine Sb a (.inr rfl) e rfl rfl (λo f=>?_) (a_ l ia)
  have g:fI m {m with heap:=o}:=qB f
  exact v _ n _ g (q.grow g) h (by rw [eD];exact l)
 | @list a n e h=>
  obtain rfl:=gP x
  refine gv (r.isList e) λT k g q l S E=>?_
  refine Sb a (.inl rfl) g rfl rfl (λo f=>?_) (a_ (by exact n1 E l) ia)
  have g:fI m {m with heap:=o}:=qB f
  exact v _ n _ g (q.grow g) h (by rw [eD,E];exact l)
 | @dict a u e j h=>
  obtain rfl:=gP x
  refine iP (r.oT e) λd l=>?_
  refine gi (d.GQ j) λA G q C=>?_
  have B:A.length=u.length:=by have:=congrArg fk C;simpa using this.symm
  refine kdu_collect (kdl_dict (knd:=ub c) (kvs:=A) (ep:=A.length) (r.uF M e)) H G (a_ (by exact n1 B l) ia) λo K z f D=>?_
  have g:fI m {m with heap:=o,toks:=K}:=qB f
  have s:z.toList.length=(u.map (·.1)).length:=by rw [eD,D.1,B,bb]
  refine v _ (u.map (·.1)) _ g (Fu s λp j=>?_) h (by rw [s,bb];exact l)
  have P:p<z.size:=by simpa using j
  obtain ⟨I,V,O,f⟩:=D.2 p z[p] (oB P)
  refine kf (int_is f) λt N=>?_
  rw [j1 j,j1 (by exact fD j s),Array.getElem_toList,N]
  have F:(u.map (·.1))[p]? =some (.int I):=by rw [C,ed,O];rfl
  rw [dj (by exact fD j s)] at F
  rw [d5 F]
  exact .int _ _
theorem J4 (Y:gX c):zG c 1:=λM ku st Q g s h J G U=>by
 replace h:=qI h;obtain ⟨x,rfl,h⟩:=h
 refine jo g U.one λv qv=>?_
 have R:=J.Az
 refine Calls.call_function_entry Y' W6 W7 (args_sorted1 _) ?_
 unfold vZ.«sorted»
 refine b5 (m:=Zf "sorted" 1 1 _) (dk ?_)
 refine b5 (vR (L:=M.in1) Y J.handled G qv h λg I f l z hx hl=>?_)
 refine Ll hx λC L N H kl=>mT kl λw Z V=>?_
 have n:=z.length
 have kx:=nG
 refine b5 (zM ?_ (by exact n1 n (Ou C)))
 have k:=jA f (listOf g.toArray 0)
 show gf _ _ _ _ _ {f with heap:=f.heap.push (listOf g.toArray 0)}
 have B:({f with heap:=f.heap.push (listOf g.toArray 0)}:eM).heap.get? f.heap.objs.size=some (gw "list" g.toArray 0):=eX _ rfl
 have O:∀j,({f with heap:=f.heap.push (listOf g.toArray 0)}:eM).heap.get? f.heap.objs.size=some j->¬gc j:=λj e=>by rw [B] at e;obtain rfl:=d5 e;exact qH _ _
 refine b5 (f7 (nq Vn (ei _ B rfl) US ?_ (args_list_sort _)))
 refine DL B (by exact Tn n C) (Ft (by show M.units+1+1+60<vC;exact ul 62 R rfl) (z.grow k) L N O) λp W kq u S t kn=>ei _ rfl ?_
 refine dk (ei _ rfl ?_)
 have y:=pU L
 have e:(p.toList.map λi=>I.getD i .none)=H:=by
  have F:=CH u (dn:=AV.none) (dq:=I) (by exact n.symm)
  refine sf (r:=λa b=>(Lt a b\/a=b)/\oR 4 a) (λa b E X=>xu E.2 E.1 X.1) (F.trans w.symm) ?_ ?_
  .exact (zh (by exact n.symm) u S y N).imp_of_mem λD _ h=>⟨h,y _ (F.mem_iff.mp D)⟩
  .exact Z.imp_of_mem λD _ h=>⟨h,y _ (w.mem_iff.mp D)⟩
 have km:fI s W:=⟨λb j K=>t.keep b j (λq=>by
  subst q
  have:=l.keep _ _ K
  rw [iq] at this;contradiction) (k.keep _ _ (l.keep _ _ K)),(t.gens.trans k.gens).trans l.gens,(t.os.trans k.os).trans l.os⟩
 have P:s.heap.get? f.heap.objs.size=none:=by
  induction e:s.heap.get? f.heap.objs.size using d_ with
  |none=>rfl
  |some j=>have:=l.keep _ _ e;rw [iq] at this;contradiction
 refine uJ (av:=.list H) G km P (.list kn ?_ ?_) (by (repeat intro _);contradiction) V
 .rw [<-e]
  exact Fv ((z.grow k).but t O) λi T=>eV.mp (u.mem_iff.mp T)
 .rw [w.length_eq];unfold fG;exact a_ (eB C) (by decide)
theorem AI (b:bB.Nodup) (h:bB[a]? =some ao):(bB.zip aj).lookup ao=aj[a]? :=by
 induction bB generalizing aj a with
 |nil=>contradiction
 |cons y bB c=>
  induction aj using el with
  |nil=>simp
  |cons v aj=>
   rw [eU] at b
   induction a using ja with
   |zero=>clear c b;(injection h with h;subst h);simp
   |succ a=>
    have h:bB[a]? =some ao:=h
    have d:ao≠y:=λe=>b.1 (e▸(fj h))
    rw [pe,eN,beq_false_of_ne d]
    exact c b.2 h
theorem lookup_append_none {b:List (j9×h)} (a:e8.lookup ao=none):(e8++b).lookup ao=b.lookup ao:=by
 induction e8 with
 |nil=>rfl
 |cons p e8 d=>
  obtain ⟨y,v⟩:=p
  rw [eN] at a
  rw [iN,eN]
  induction c:ao==y with
  |true=>rw [c] at a;contradiction
  |false=>rw [c] at a;exact d a
theorem wg {c:List (j9×h)} (a:e8.lookup ao=some dn):(e8++c).lookup ao=some dn:=by
 induction e8 with
 |nil=>contradiction
 |cons p e8 d=>
  obtain ⟨y,w⟩:=p
  rw [eN] at a
  rw [iN,eN]
  induction b:ao==y with
  |true=>rw [b] at a;exact a
  |false=>rw [b] at a;exact d a
theorem yt (e:bB.Nodup) (f:aj.length=bB.length) {b:List (j9×eJ)} (a:∀(i:Nat) x,bB[i]? =some x->b.lookup x=aj[i]?):bB.filterMap (λn=>(b.lookup n).map (n,·))=bB.zip aj:=by
 induction bB generalizing aj with
 |nil=>rfl
 |cons x bB g=>
  induction aj using el with
  |nil=>contradiction
  |cons v aj=>
   have c:=a 0 x rfl
   simp only [tP] at c
   rw [qU,c]
   show (x,v)::_=(x,v)::_
   rw [g (eU.mp e).2 (by simpa using f) λi y d=>a (i+1) y (by simpa using d)]
   rfl
noncomputable def CI (n:Nat) (vs ds:List eJ):List Value:=vs++ds.drop (vs.length+ds.length -n)
variable {d4:GY} {d6:List Arg}
theorem IT {a:List eJ} {Q:List (j9×eJ)->eM->Prop} (J:d4.params=⟨[],d6,none,[],[],none,az⟩) (C:(argNames d6).Nodup) (O:∀{U:Option (Array eJ)->eM->Prop},(∀o,(o.getD #[]).toList=a->U o m)->gf (hX c.prog c.w) L (seqItems? d4.defaults) U aG m) (b:aj.length<=d6.length) (g:d6.length<=aj.length+a.length) (F:a.length<=d6.length) (h:Q ((argNames d6).zip (CI d6.length aj a)) m):gf (hX c.prog c.w) L (PySem.bindArgs d4 ⟨aj,[]⟩) Q aG m:=by
 have u:d6.map (·.arg)=argNames d6:=rfl
 have l:(argNames d6).length=d6.length:=bb _
 rcases d4 with ⟨_,_,ps,_,_,_,_,_,_,_,_,_,_,_,_⟩
 have J:ps=_:=J
 subst J
 refine b5 (dk (b5 (O λo E=>?_)))
 clear O
 refine nY (decide_eq_false λq=>i6.mpr b ?_) ?_
 .have q:=of_decide_eq_true ((qA.mp q).1)
  exact c_ (gy (bb _).symm) q
 have D:a.drop (a.length -d6.length)=a:=by rw [show a.length -d6.length=0 by exact vE F];rfl
 have G:Ta (λn=>(ph n ((argNames d6).zip aj)).isNone) (Vr (d6.length -a.length) (argNames d6))=[]:=by
  rw [jD]
  intro x k
  obtain ⟨f,z,rfl⟩:=qT k
  have T:f<d6.length -a.length:=by rw [fT] at z;exact ej z (g9 _ _)
  rw [List.getElem_take,AI C (a:=f) (dj (by exact EU (ej T (jS _ _)) l)),dj (by exact ej T (j' g))]
  simp
 refine nY (decide_eq_false λq=>?_) ?_
 .have q:(!(Ta (λn=>(ph n ((d6.map (·.arg)).zip aj)).isNone) (Vr ((d6.map (·.arg)).length - (v7 ((o.getD #[]).toList.length - (d6.map (·.arg)).length) (o.getD #[]).toList).length) (d6.map (·.arg)))).isEmpty)=true:=q
  rw [u,E,l,D,G] at q;contradiction
 refine b5 ?_
 refine qR _
  (λI slots A=>A=m/\∃j,d6.length -a.length<=j/\j<=d6.length/\I=((argNames d6).drop j).zip (a.drop (j - (d6.length -a.length)))/\
   ∀(f:Nat) x,(argNames d6)[f]? =some x->slots.lookup x=if f<aj.length then aj[f]? else if f<j then a[f - (d6.length -a.length)]? else none)
  _ ?_ ?_ _ _ (wW rfl (d6.length -a.length) (eK _) (jS _ _) (by show (v7 ((d6.map (·.arg)).length - (v7 ((o.getD #[]).toList.length - (d6.map (·.arg)).length) (o.getD #[]).toList).length) (d6.map (·.arg))).zip (v7 ((o.getD #[]).toList.length - (d6.map (·.arg)).length) (o.getD #[]).toList)=_;rewrite [u,E,l,D,jE,rJ];rfl) (λf x k=>?_))
 .intro Z I slots A kl;obtain ⟨x,d⟩:=Z;refine Il A kl λj r M p t=>?_
  have R:j<d6.length:=by
   rcases ke j d6.length with q |q
   .exact q
   .rw [pI (by exact le_of_eq_of_le l q)] at p;simp at p
  have k:(argNames d6)[j]? =some (argNames d6)[j]:=dj (by exact fD R (id (rK l)))
  have P:a[j - (d6.length -a.length)]? =some a[j - (d6.length -a.length)]:=dj (by exact bk F r R)
  rw [drop_cons k,drop_cons P,pe] at p
  refine iP (ft p) λV S=>?_
  refine KZ x d (l_ V) ?_
  have B:=t j _ k
  have K:I=((argNames d6).drop (j+1)).zip (a.drop (j+1 - (d6.length -a.length))):=by rw [S,show j+1 - (d6.length -a.length)=j - (d6.length -a.length)+1 by exact OF r]
  by_cases w:j<aj.length
  .rw [if_pos w,dj w] at B
   refine nY (by rw [B];rfl) (dk (wW rfl (j+1) (by exact pP r) (by assumption) K (λf y s=>?_)))
   rw [t f y s]
   by_cases b:f<aj.length
   .rw [if_pos b,if_pos b]
   .rw [if_neg b,if_neg b]
    by_cases g:f<j
    .rw [if_pos g,if_pos (by exact Ae 1 g)]
    .rw [if_neg g,if_neg (by exact λq=>b (ej q w))]
  .rw [if_neg w,if_neg (jm _)] at B
   refine wpAny_ite_true (by rw [B];rfl) (dk (wW rfl (j+1) (by exact pP r) (by assumption) K (λf y s=>?_)))
   have z:=t f y s
   by_cases H:f=j
   .clear C b g u E D G h M t S p V K z;subst H
    rw [s] at k
    have kq:=d5 k
    rw [if_neg w,if_pos (fJ _),kq,lookup_append_none B,P]
    simp
   .have Y:y≠(argNames d6)[j]:=λe=>H ((iX (ey.mp s).1 C).mp (s.trans (by rw [e,k])))
    have km:ph y [((argNames d6)[j],a[j - (d6.length -a.length)])]=none:=by rw [eN,beq_false_of_ne Y];rfl
    have:(slots++[((argNames d6)[j],a[j - (d6.length -a.length)])]).lookup y=slots.lookup y:=by
     induction N:slots.lookup y with
     |none=>rw [lookup_append_none N,km]
     |some v=>exact wg N
    rw [this,z]
    by_cases b:f<aj.length
    .rw [if_pos b,if_pos b]
    .rw [if_neg b,if_neg b]
     by_cases g:f<j
     .rw [if_pos g,if_pos (by exact Ae 1 g)]
     .rw [if_neg g,if_neg (by exact λq=>g (nu (eY q) H))]
 .clear E D G;intro slots A kn;refine Il A kn λj r M p t=>?_
  have X:j=d6.length:=by
   rcases ke j d6.length with q |q
   .rw [drop_cons (dj (by exact fD q (id (rK l)):j<(argNames d6).length)),drop_cons (dj (by exact bk F r q:j - (d6.length -a.length)<a.length)),pe] at p
    contradiction
   .exact iw M q
  refine b5 (dk (nY rfl (dk ?_)))
  show Q (vL (λn=>(ph n slots).map (n,·)) (d6.map (·.arg)++[])) m
  rewrite [eT,u,yt (aj:=CI d6.length aj a) C (by unfold CI;rw [bh,eA];exact Xf b g l) λf x k=>?_]
  .exact h
  .have W:=(ey.mp k).1
   rw [t f x k]
   unfold CI
   by_cases b:f<aj.length
   .rw [if_pos b,eO b]
   .rw [if_neg b,if_pos (by exact EU (fD W l) X),fm (by exact mS b),pf]
    congr 1;exact Xg g F b
 .show ph x ((d6.map (·.arg)).zip aj)=_
  rw [u,AI C k]
  have W:=(ey.mp k).1
  by_cases b:f<aj.length
  .rw [if_pos b]
  .rw [if_neg b,if_neg (by exact λq=>b (ej q (j' g))),iC (by exact mS b)]
structure VZ (B:Base) (k:Nat) (d:Def) (dv:List AV):Prop where
 obj:∃o fd,B.h₀.get? (B.fa k)=some o/\o.data= .func fd/\fd.params=d.params/\fd.body= .stmts d.body/\fd.scope=d.scope/\fd.globals=iI/\fd.closure=[]/\fd.builtins=j3/\
  B.h₀.CodeRec fd.code fd.qualname/\((fd.defaults= .none/\dv=[])\/∃t items n,fd.defaults= .ref t/\B.h₀.get? t=some (gw "tuple" items n)/\h_ B B.h₀ items.toList dv)/\
  (BR d.scope.names=true->fd.code= .ref B.lc/\fd.qualname++(".<locals>.":j9)=B.E3)
 dl:dv.length<=d.params.args.length
structure T4 (S:gq->List zw->w_->Prop) (d:Def) (F:mV) (as:List Arg) (dfl:List gg):Prop where
 par:d.params=⟨[],as,none,[],[],none,dfl⟩
 sc:Ap d.scope=true
 free:∀x,(x,fE)∉d.scope.names
 nd:(argNames as).Nodup
 st:(argNames as).map (ot d.scope.names)=F.params.map some
 len:F.size=(slots d.scope.names).length
 body:S d.scope.names d.body F.body
noncomputable def AJ (S:gq->List zw->w_->Prop) (B:Base):Prop:=∀k F,PG.fns[k]? =some F->F=noFn\/∃(d:Def) (as:List Arg) (dfl:List gg),T4 S d F as dfl/\VZ B k d F.Iq
theorem zi:∀{k:List j9} {l:List Nat} {e:List eJ} {a:List AV} {m:MM} {s:eM},k.map (ot r)=l.map some->FR c aa r m b s->R c b s->h_ c s.heap e a->a.length=l.length->
 ∀{Q:PUnit->eM->Prop},(∀f,FR c aa r (pJ m l a) b f->R c b f->xq c aa r b s b f->Q ⟨⟩ f)->WE c L (forIn (k.zip e) BN λ(x:j9×eJ) (_:PUnit)=>do SP aa x.1 x.2;pure (iU BN)) Q s:=by
 intro D
 induction D with
 |nil=>
  intro l e a m s d F g q j Q h
  have:l=[]:=by simpa using d.symm
  clear d;subst this
  have:a=[]:=gW.mp j
  clear j;subst this;cases q
  exact dk (h s F g .refl)
 |cons x k B=>
  intro l e a m s d F g q j Q h
  induction l using el with
  |nil=>simp at d
  |cons i l=>
   simp only [eI,iA] at d
   induction a using el with
   |nil=>contradiction
   |cons y a=>
    cases q with
    | @cons v _ e _ t w=>
     rw [pe,qM]
     refine b5 (b5 (pT F g d.1 t λf o p n=>dk ?_))
     exact B d.2 o p (w.AE g F n) (by simpa using j) λu A C z=>h u A C (n.trans o z)
theorem Hs {a:List j9} (h:Dv bB a=some C):a.map (r9 bB)=C.map some:=by
 induction a generalizing C with
 |nil=>(injection h with h;subst h);rfl
 |cons x r c=>
  refine eS (jn.mp h) λi d h=>?_
  refine iQ C (fX.mp h) λe b=>?_
  rw [eI,d,c b];rfl
theorem wh (h:q5 [] r=true):∀x,(x,fE)∉r:=λx a=>by
 rcases uL h x a with h |h<;>contradiction
theorem DM (c:(r.map (·.1)).Nodup) (d:∀ao,(ao,fE)∉r) (h:r9 (slots r) ao=some a):ot r ao=some a:=by
 refine eS (Hg (fj (pv h)) c) λk b f=>?_
 unfold ot
 rw [b]
 have e:Qw k=true:=by
  induction k with
  |«local»=>rfl
  |cell=>rfl
  |free=>exact absurd ((jW c).mp b) (d ao)
  |_=>contradiction
 simp only [e,if_true]
 exact h
theorem DN (g:Ap aJ=true) (e:∀x,(x,fE)∉aJ.names) (f:Dv (slots aJ.names) (argNames d6)=some C):(argNames d6).map (ot aJ.names)=C.map some:=by
 refine qn (q9 g) λ_ _ _ h _=>?_
 have a:=Hs f
 rw [<-a]
 apply fo
 intro x d
 have b:r9 (slots aJ.names) x∈(argNames d6).map (r9 (slots aJ.names)):=ck.mpr (ei x d rfl)
 rw [a] at b
 refine eS (ck.mp b) λi _ c=>?_
 rw [<-c]
 exact DM h e c.symm
theorem zj (d:gX c) (r:R c b m):m.heap.NoLimit:=eS d.nolimit λa e h=>(ei a (e.keeps r.old) h)
theorem mW.deeper (b:mW (a+1) L) (c:yX):mW a (L.deeper c):=⟨by
 have:=b.depth
 show L.depth+1+10*a<=900
 exact rm this rfl,by have:=b.units;show L.units+3+100*a<=9000;exact rm this rfl,b.handled⟩
variable {j:zU}
theorem Pj (a:bindArgs noFn l=some e) (h:js PG j noFn.body e b ag):False:=by
 refine iP (Ly a) λ_ a=>?_
 subst a
 refine eS h λv h _=>?_
 contradiction
theorem Pk {S:gq->List zw->w_->Prop} (HB:gX c) (HF:AJ S c) (kG:2<=a->∀ns ss ky,S ns ss ky->O9 c a ns ss ky) (h:eF PG (a+1) (.fn d) l b n) (hr:mW (a+1) L) (r:R c b m) (qs:h_ c m.heap aj l) (hZ:∀v T,k_ c b m n v T->bJ (.ok (.ret v)) T):sv (hX c.prog c.w) L (.call (.ref (c.fa d)) ⟨aj,[]⟩) bJ m:=by
 refine Dp h λkB F lN hF U h=>?_
 have kW:=kG kB
 .rcases HF d F hF with rfl |⟨p,E,lL,z,Y⟩
  .exact (Pj U h).elim
  .clear HF kG kB hF;obtain ⟨ps,dv,sz,g⟩:=F
   obtain ⟨hp,lE,kV,lF,Z,kD,K⟩:=z
   .dsimp only at Z kD K Y h
    subst kD
    refine qn (q9 lE) λk1 k2 k3 N k5=>?_
    refine qY Y.obj λo k kZ=>Dg kZ λho lz lD kQ kn kX lG lr lj kT kM=>?_
    .refine iP (Ly U) λkl U=>?_
     subst U
     .have kK:=r.old _ _ ho
      have km:ps.length=E.length:=by
       have j:=congrArg fk Z
       rw [bb,bb,bb] at j
       exact j.symm
      have X:=qs.length
      obtain ⟨G,kF,lI⟩:∃G:List eJ,h_ c m.heap G (dv)/\∀{Q':Option (Array eJ)->eM->Prop},(∀o:Option (Array eJ),(o.getD #[]).toList=G->Q' o m)->gf (hX c.prog c.w) L.in1 (seqItems? k.defaults) Q' (λe T=>bJ (.error e) T) m:=by
       rcases kT with ⟨e1,e2⟩ |⟨t,kC,a,e1,e2,e3⟩
       .refine ei [] (by rw [e2];exact .nil) (λH=>?_)
        rw [e1]
        exact dk (H none rfl)
       .refine ei kC.toList (e3.mono λkH o e _=>r.old kH o e) (λH=>?_)
        rw [e1]
        exact sX (r.old _ _ e2) rfl (H (some kC) rfl)
      have W:=kF.length
      have lh:h_ c m.heap (CI E.length aj G) (l++(dv).drop (l.length+(dv).length -ps.length)):=by
       unfold CI
       rw [X,W,km]
       exact qs.append (kF.drop _)
      have h3:=kl.1
      rw [bh,eA] at h3
      have j:aj.length<=E.length:=by exact Vv (n1 X kl.2) km.symm
      have I:E.length<=aj.length+G.length:=by exact Xh h3 km X W
      have kP:k.scope.isCoroutine=false:=by rw [kn];exact k3
      have lC:k.scope.isGenerator=false:=by rw [kn];exact k2
      have lg:G.length<=E.length:=by have:=Y.dl;rw [show p.params.args=E by rw [hp]] at this;rw [W];exact this
      refine codeAny_call_function hr.TH kK lz kP lC kQ (lj.keeps r.old) ?_
      refine IT (lD.trans hp) lF lI j I lg ?_
      rw [kn,kX,lG,lr]
      refine er (AG (c:=c) (L:=L.in1) (m:=m) (Q:=λkN O=>O.heap.NoLimit/\sv (hX c.prog c.w) L (.func p.body kN) bJ O) N ?_) (λ_ _ q=>q) λ_ _ e=>e.elim
      intro C D ly M
      have kJ:FR c (vV p.scope C iI D (k.qualname++".<locals>.") (some (c.fa d)) k.code none j3) p.scope.names (gn (slots p.scope.names).length none) b ly:=by
       refine DK r N M _ rfl rfl k1 rfl rfl (λx d u=>.inl ?_) k5 (λx u=>absurd u (kV x)) (λx kI u=>by contradiction) (λx y kI u=>by contradiction) (λi x v hi V=>?_) (by simp) λkU=>kM kU
       .show ph x p.scope.names=some d
        rw [<-sD];exact u
       .rw [tO] at V
        split at V<;>first |contradiction |(injection V;contradiction)
      have kO:=r.grow M.grow
      refine zi Z kJ kO (lh.grow M.grow) kl.1 λO lu ku kx=>⟨zj HB ku,?_⟩
      refine codeAny_func ?_
      refine er (kW _ _ _ K (L.deeper (vV p.scope C iI D (k.qualname++".<locals>.") (some (c.fa d)) k.code none j3)) _ _ b O _ (hr.deeper _) lu ku h) (λf lA ζ=>?_) λ_ _ e=>e.elim
      refine Ij ζ λfl lM lK lB=>qn lB λhf lJ lx kz lH=>kf lH λlq kY=>iP kY λkq H=>?_
      refine hZ _ lA ⟨y_ fl,lq,?_,lx.le kq,St.le ⟨λg o e J=>?_,λg K=>?_⟩ kq,H⟩
      .induction hf with
       |next=>exact .none
       |brk=>exact .none
       |ret q=>exact q
      .have P:¬Own p.scope.names (vV p.scope C iI D (k.qualname++".<locals>.") (some (c.fa d)) k.code none j3) g:=λw=>by
        rcases w with w |⟨x,u,z⟩
        .have w:g=C:=w
         rw [w,M.fresh] at e;contradiction
        .have z:D.lookup x=some g:=z
         refine gi (M.own x ((jW N).mp u)) λc' j I _=>?_
         rw [z] at j;(injection j with j;subst j)
         rw [I] at e;contradiction
       exact kz.keep g o (kx.keep g o (M.grow.keep g o e) J P) J P
      .rcases kz.foot g K with h |h
       .exact .inl h
       .induction e:m.heap.get? g with
        |none=>exact .inr rfl
        |some o=>
         refine .inl (gj λJ=>?_)
         have P:¬Own p.scope.names (vV p.scope C iI D (k.qualname++".<locals>.") (some (c.fa d)) k.code none j3) g:=λw=>by
          rcases w with w |⟨x,u,z⟩
          .have w:g=C:=w
           rw [w,M.fresh] at e;contradiction
          .have z:D.lookup x=some g:=z
           refine gi (M.own x ((jW N).mp u)) λc' j I _=>?_
           rw [z] at j;(injection j with j;subst j)
           rw [I] at e;contradiction
         rw [kx.keep g o (M.grow.keep g o e) J P] at h
         contradiction
theorem R.Pl {B:Base} (r:R B b m) {c:Nat} (F:c<10):b.free (m.heap.objs.size+1)/\b.free m.heap.objs.size/\
 R B (b.set (m.heap.objs.size+1) (.inst c m.heap.objs.size [])) {m with heap:=(m.heap.push yW).push (uh (B.ca c) m.heap.objs.size)}/\
 St B b m (b.set (m.heap.objs.size+1) (.inst c m.heap.objs.size [])) {m with heap:=(m.heap.push yW).push (uh (B.ca c) m.heap.objs.size)}:=by
 have y:(m.heap.push yW).objs.size=m.heap.objs.size+1:=rH ..
 generalize w:m.heap.objs.size+1=p at y
 generalize v:m.heap.objs.size=i at w
 have l:m.heap.get? i=none:=by rw [<-v];exact iq _
 have k:m.heap.get? p=none:=get?_none_of_le (by exact n1 v (eB (fD (fJ _) w)))
 have n:∀{d},m.heap.get? d=none->¬ik B b d/\B.h₀.get? d=none:=λh=>r.kk h
 have u:∀{d},m.heap.get? d=none->b.free d:=λ{d} h=>by
  have L:=(n h).1
  exact ⟨by
   induction e:b d with
   |none=>rfl
   |some P=>exact absurd (.inl (by rw [e];simp)) L,λx c s e=>L (.inr (.inl (qC x c s e)))⟩
 have G:p≠i:=by exact λq=>OE i (w.trans q)
 have E:p≠B.tab:=λe=>(n k).1 (.inr (.inr e))
 have H:i≠B.tab:=λe=>(n l).1 (.inr (.inr e))
 have g:fI m {m with heap:=(m.heap.push yW).push (uh (B.ca c) i)}:=⟨λd o e=>fq _ (fq _ e),rfl,rfl⟩
 have D:((m.heap.push yW).push (uh (B.ca c) i)).get? p=some (uh (B.ca c) i):=by rw [<-y];exact eX _ rfl
 have C:((m.heap.push yW).push (uh (B.ca c) i)).get? i=some (rB [] 0):=fq _ (by rw [<-v];exact eX _ rfl)
 have A:∀d,ik B (b.set p (.inst c i [])) d->ik B b d\/d=p\/d=i:=by
  clear r F y v w l k n u G E H g D C;rintro d (h |⟨a,z,s,h⟩ |h)
  .by_cases f:d=p
   .exact .inr (.inl f)
   .rw [gu f] at h;exact .inl (.inl h)
  .by_cases j:a=p
   .subst j;rw [gZ] at h;cases (h);exact .inr (.inr rfl)
   .rw [gu j] at h;exact .inl (.inr (.inl (qC a z s h)))
  .exact .inl (.inr (.inr h))
 refine uz (u k) (u l) ⟨λa o e=>?_,λd o e=>g.keep _ _ (r.old d o e),λd f=>?_,λa z O s e=>?_,?_,r.tab.mono (λa o e _=>g.keep a o e) λo e=>g.keep _ o e,r.gens,r.os⟩ ⟨λd o e _=>g.keep d o e,λd f=>?_⟩
 .by_cases j:a=p
  .subst j;rw [gZ] at e;(injection e with e;subst e)
   exact .inst D C .nil eH F
  .rw [gu j] at e;exact (r.objs a o e).grow g
 .rcases A d f with h |rfl |rfl
  .exact r.new d h
  .exact (n k).2
  .exact (n l).2
 .by_cases j:a=p
  .clear r F y v w k n E g D C A;subst j;rw [gZ] at e;cases (e)
   refine iD (by rw [gu G.symm];exact (u l).1) H (λd c2 I t=>?_)
   by_cases f:d=a
   .exact f
   .rw [gu f] at t
    exact absurd t ((u l).2 d c2 I)
  .rw [gu j] at e
   refine mT (r.Cv a z O s e) λJ M N=>?_
   have K:O≠p:=λq=>(u k).2 a z s (q▸e)
   refine iD (by rw [gu K];exact J) M (λd c2 I t=>?_)
   by_cases f:d=p
   .clear r F y v w k n G E H g D C A j J M N K;subst f;rw [gZ] at t;cases (t)
    exact absurd e ((u l).2 a z s)
   .rw [gu f] at t;exact N d c2 I t
 .rw [gu (nD E)];exact r.vF
 .rcases A d f with h |rfl |rfl
  .exact .inl h
  .exact .inr k
  .exact .inr l
noncomputable def Sy (B:Base) (n:Nat):Prop:=∀(A:ji) (k:Nat) (args:List AV) (st:AS) (Q:AV->AS->Prop) (vs:List eJ) (s:eM) (Z:Result->eM->Prop),
 eF PG n (.fn k) args st Q->mW n A->R B st s->h_ B s.heap vs args->(∀v s',k_ B st s Q v s'->Z (.ok (.ret v)) s')->sv (hX B.prog B.w) A (.call (.ref (B.fa k)) ⟨vs,[]⟩) Z s
theorem J5 (C:g0) (a:List eJ):Code.weight (.builtin "type.__call__" ⟨.ref C::a,[]⟩)=1:=by kernel_rfl
theorem Mq (C:g0) (a:List eJ):Code.cUnits (.builtin "type.__call__" ⟨.ref C::a,[]⟩)=1:=by kernel_rfl
theorem Mr (A:ji) (C:g0) (a:List eJ):(A.under (.builtin "type.__call__" ⟨.ref C::a,[]⟩)).handled=A.handled/\(A.under (.builtin "type.__call__" ⟨.ref C::a,[]⟩)).depth=A.depth+1/\(A.under (.builtin "type.__call__" ⟨.ref C::a,[]⟩)).units=A.units+1:=
 (iD rfl (congrArg (A.depth+·) (J5 C a)) (congrArg (A.units+·) (Mq C a)))
theorem Ms (e:gX c) (G:Sy c a) (h:eF PG (a+1) (.cls d) l b n) (f:mW (a+1) L) (r:R c b m) (y:h_ c m.heap aj l):
 WE c L (nF (.ref (c.ca d)) aj []) (k_ c b m n) m:=by
 refine eS h λC i h=>?_
 .have j:d<10:=by rw [<-e.LL];exact (ey.mp i).1
  refine eS (e.cls d j) λJ q K=>?_
  rw [i] at q;obtain rfl:=d5 q
  have X:=e.Hk r
  have w:=looks_findIn (M:=hX c.prog c.w) X K.init
  have E:=λA=>bind_fn (M:=hX c.prog c.w) X A (beq_iff_eq.mp K.TJ)
  have Y:=makes_of (M:=hX c.prog c.w) X K.makes
  refine wY (r.Pl (c:=d) j) λk p D o=>?_
  have s:=h _ _ k p (OE _)
  refine QU ?_
  clear e i h j K X k p;obtain ⟨P,g,O,t,N⟩:=m
  refine make_core Y w E (.inl rfl) ?_
  refine mT (Mr L (c.ca d) aj) λu1 u2 u3=>?_
  refine G _ C.init _ _ _ _ _ _ s ⟨by have:=f.depth;exact Wq u2 this rfl,by have:=f.units;exact Wq u3 this rfl,u1.trans f.handled⟩ D (.cons (.ref _) (y.step r o)) ?_
  intro v Q B;obtain ⟨x,z,F,H,I,rfl,u⟩:=B
  obtain rfl:=qG F
  exact ⟨rfl,.ref _,z,.ref _,H,o.trans I,u⟩
inductive uN (B:Base) (n:Nat) (ns:gq):List (Option gg)->List gg->wL->Prop where
 |nil:uN B n ns [] [] .nil
 |cons {k v:gg} {ks:List (Option gg)} {vs:List gg} {a b:CE} {r:wL}:SE B n ns k a->SE B n ns v b->uN B n ns ks vs r->uN B n ns (some k::ks) (v::vs) (.cons a (.cons b r))
noncomputable def Fw (ps:List (eJ×eJ)):List Value:=ps.flatMap λp=>[p.1,p.2]
theorem J6:∀ps:List (eJ×eJ),(Fw ps).length=2*ps.length:=by
 intro d
 induction d with
 |nil=>
  exact rfl
 |cons p ps c=>
  have:=c
  show (p.1::p.2::Fw ps).length=2*(ps.length+1)
  simp only [ff];exact (λ{a b}=>S8.mpr) (congrFun (congrArg HAdd.hAdd this) 1)
theorem J7:∀c:List (Int×AV),(Cn c).length=2*c.length:=by
 intro f
 induction f with
 |nil=>
  exact rfl
 |cons e ps d=>
  obtain ⟨k,v⟩:=e
  have:=d
  show (AV.int k::v::Cn ps).length=2*(ps.length+1)
  simp only [ff];exact (λ{a b}=>S8.mpr) (congrFun (congrArg HAdd.hAdd this) 1)
variable {d9:List (Option gg)}
theorem uN.all (h:uN c a r d9 az aq):d9.all (·.isSome)=true/\d9.length=az.length:=by
 induction h with
 |nil=>exact ⟨rfl,rfl⟩
 |cons _ _ _ b=>exact ⟨by simpa using b.1,congrArg rY b.2⟩
theorem Mt (w:uN c a r d9 az aq):∀{A:ji} {m:MM} {b:AS} {s:eM} {Q:List AV->AS->Prop} {j:Eu},mW a A->FR c aa r m b s->R c b s->Ir PG (eF PG a) aq m b Q->
 WE c A (evalPairs (pairTrees d9 az aa j)) (λps k=>∃f l,h_ c k.heap (Fw ps) f/\R c l k/\St c b s l k/\ps.length=d9.length/\Q f l) s:=by
 induction w with
 |nil=>intro A m b s Q j g F d h;exact pairTrees_nil_walk (qX [] b .nil d .refl rfl h)
 |cons C v _ L=>
  intro A m b s Q j g F d h
  refine pairTrees_cons_walk (er (C A aa m b s _ g F d h) (λS z ⟨x,K,H,t,o,I⟩=>er (v A aa m K z _ g (F.step d o) t I) (λO T n=>?_) λ_ _ e=>e) λ_ _ e=>e)
  obtain ⟨y,N,M,p,q,B⟩:=n
  refine er (L g (F.step d (o.trans q)) p B) (λps P n=>?_) λ_ _ e=>e
  refine gv n λf D E u i G J=>?_
  exact qX (x::y::f) D (.cons ((H.step t q).step p i) (.cons (M.step p i) E)) u ((o.trans q).trans i) (congrArg rY G) J
theorem J8:∀{ps:List (eJ×eJ)} {f:List (Int×AV)} {a:List (Int×eJ)} {s:eM} {Q:PUnit->eM->Prop},h_ c s.heap (Fw ps) (Cn f)->s.heap.DictAt (ub c) y a a.length->(a.map (·.1)++f.map (·.1)).Nodup->a.length+f.length<=fG->
 (∀u d,vl y s u->u.heap.DictAt (ub c) y (a++d) (a.length+d.length)->d.map (·.1)=f.map (·.1)->h_ c u.heap (d.map (·.2)) (f.map (·.2))->Q ⟨⟩ u)->WE c L (storeAll y ps) Q s:=by
 intro X
 induction X with
 |nil=>
  intro f a s Q q i l h n
  induction f using el with
  |nil=>exact dk (n s [] ⟨λ_ _ _ e=>e,rfl,rfl⟩ (by simpa using i) rfl .nil)
  |cons p r=>clear i l h n;obtain ⟨k,v⟩:=p;contradiction
 |cons P ps W=>
  intro f a s Q q i l h n
  obtain ⟨D,m⟩:=P
  induction f using el with
  |nil=>contradiction
  |cons p r=>
   obtain ⟨k,x⟩:=p
   change h_ c s.heap (D::m::Fw ps) (.int k::x::Cn r) at q
   cases q with
   |cons J q=>
    cases q with
    |cons K q=>
     refine r5 D (gr J) λt=>?_
     unfold storeAll
     rw [qM]
     have O:jb a k=none:=by
      induction e:jb a k with
      |none=>rfl
      |some v=>
       exfalso
       unfold jb at e
       refine eS (fX.mp e) λp B _=>?_
       have H:=so B
       have T:p.1=k:=by have:=BF B;simpa using this
       rw [eQ] at l
       exact l.2.2 k (ck.mpr (ei p H T)) k (by simp) rfl
     have E:∀o,s.heap.get? y=some o->¬gc o:=λo e=>by
      refine nZ i λU G g _ z _=>?_
      rw [e] at g;(injection g with g;subst g);exact rN z
     refine b5 (b5 (wc (knd:=ub c) (pM _ _ k t) i (λw I _ _=>absurd O I) (λw _ C S=>dk ?_) (a_ (by simp at h;exact Nat.le_of_add_right_le h) ia)))
     have j:vl y s {s with heap:=w,toks:=s.toks+1}:=⟨λb o j e=>(S.2 b j).trans e,rfl,rfl⟩
     refine W (a:=a++[(k,m)]) (q.but j E) (by rw [bh];exact C) (by simpa using l) (by simp at h⊢;exact sw h (eK _)) λM d F A R V=>?_
     have N:∀o,({s with heap:=w,toks:=s.toks+1}:eM).heap.get? y=some o->¬gc o:=λo e=>by
      refine nZ C λU G g _ z _=>?_
      rw [e] at g;(injection g with g;subst g);exact rN z
     refine n M ((k,m)::d) (j.trans F) ?_ (by simp [R]) (.cons ((K.but j E).but F N) V)
     rw [eE] at A
     rw [bh] at A
     rw [ff,show a.length+(d.length+1)=a.length+[(k,m)].length+d.length by simp;exact rK (Nat.succ_add_eq_add_succ a.length d.length)]
     exact A
theorem Mu (G:d9.length<15) (B:uN c a r d9 az aq):SE c a r (.Dict d9 az ae) (.dict aq):=λA kG m st s Q K F t h=>by
 refine iP B.all λR w=>?_
 have n:s.heap.get? s.heap.objs.size=none:=iq _
 refine iP (t.kk n) λz y=>?_
 by_cases T:d9=[]
 .clear G K F R z y;subst T
  have:az=[]:=gW.mp w.symm
  subst this
  rcases B with ⟨⟩
  refine gi h λj e u h=>?_
  have:j=[]:=by induction j using el with
   |nil=>rfl
   |cons p t=>clear n w u h;obtain ⟨k,v⟩:=p;contradiction
  clear w u;subst this
  refine wpAny_Dict_empty ?_
  have x:(s.heap.push {cls:=.type "dict",data:=.dict #[]}).DictAt (ub c) s.heap.objs.size [] 0:=n7 _ (#[]) (eX _ rfl) ⟨rfl,rfl,rfl⟩ rfl (by intro e U;simp at U) .nil eH
  exact uJ t (jA s _) n (.dict (.int x .nil rfl) (fA _)) (by (repeat intro _);contradiction) h
 .refine wpAny_Dict_any R w T (by exact nX G) ?_
  have g:=jA s {cls:=.type "dict",data:=.dict #[]}
  have x:(s.heap.push {cls:=.type "dict",data:=.dict #[]}).DictAt (ub c) s.heap.objs.size [] 0:=n7 _ (#[]) (eX _ rfl) ⟨rfl,rfl,rfl⟩ rfl (by intro e U;simp at U) .nil eH
  generalize hD:s.heap.objs.size=D at n z y x⊢
  generalize Z:({s with heap:=s.heap.push {cls:=.type "dict",data:=.dict #[]}}:eM)=kx at g
  have O:kx.heap.DictAt (ub c) D [] 0:=by rw [<-Z];exact x
  refine er (Mt B K (F.step t (.grow g)) (t.grow g) h) (λps kl ζ=>?_) λ_ _ e=>e
  refine ET ζ λxs kC N km C Y j e u ky=>?_
  subst e
  have kn:∃d,kx.heap.get? D=some d:=i_ O λd _ i _=>(oq d i)
  have S:kl.heap.DictAt (ub c) D [] 0:=by
   refine i_ O λd W i r'=>?_
   exact nE d W (C.keep _ _ i z) r'
  have L:¬ik c kC D:=λf=>(C.foot D f).elim z λl=>by refine kf kn λd i=>?_;rw [l] at i;contradiction
  have J:j.length<=15:=by
   have V:=N.length
   have h2:=J6 ps
   have h3:=J7 j
   rw [h2,h3] at V
   exact n1 ((Nat.eq_of_mul_eq_mul_left (by decide) V).symm.trans Y) (eB G)
  refine J8 (a:=[]) N S (by simpa using u) (by unfold fG;simp;exact a_ J (by decide)) λkH E M P I X=>?_
  rw [BE] at P
  have kz:∀d,kl.heap.get? D=some d->¬gc d:=λd e=>by
   refine nZ S λo' W i _ kD _=>?_
   rw [e] at i;obtain rfl:=d5 i;exact rN kD
  have ku:=km.but M L y kz
  have kF:E.length=j.length:=by have:=congrArg fk I;simpa using this
  obtain ⟨f,kq,kB⟩:=ku.TY (o:=.dict (j.map λp=>(.int p.1,p.2))) L y (.dict (.int (kvs:=E) (by simpa using P) (by rw [ew];exact X) (by
   rw [ew]
   have e1:E.map (λp:Int×eJ=>AV.int p.1)=(E.map (·.1)).map AV.int:=by rw [ew];rfl
   rw [e1,I,ew];rfl)) (by rw [bb];unfold fG;exact a_ J (by decide))) (by (repeat intro _);contradiction)
  refine ⟨.ref D,_,.ref D,kq,⟨λb d H nf=>M.keep b d (λq=>by rw [q,n] at H;contradiction) (C.keep b d (g.keep _ _ H) nf),λb H=>?_⟩,ky D f⟩
  clear G B K F t R w T hD z y x Z O km Y u ky N kn S L J M P I X kz ku kF f kq;rcases kB b H with h |rfl
  .rcases C.foot b h with h |h
   .exact .inl h
   .induction e:s.heap.get? b using d_ with
    |none=>exact .inr rfl
    |some d=>rw [g.keep _ _ e] at h;contradiction
  .exact .inr n
section
noncomputable def wi {α:Type}:(o:Option α)->Option {a // o=some a}
 |none=>none
 |some a=>some ⟨a,rfl⟩
noncomputable def oJ:(b:Bool)->Option (PLift (b=true))
 |true=>some ⟨rfl⟩
 |false=>none
noncomputable def DO (ns:gq) (b:gg) (cb:CE):Prop:=∀B n,gX B->qp B n->SE B n ns b cb/\∀k m st Q,VE PG (eF PG (k+1)) cb m st Q->VE PG (eF PG 1) cb m st Q
noncomputable def zX (B:Base) (n:Nat):Prop:=∀(ns:gq) (f e:gg) (c:CE) (a:y4) (b:gg) (sc:Es) (lp kp pos:Eu) (cb:CE),yg ns f=true->Ct a sc=true->BR ns=true->DO sc.names b cb->
 xc e=true->SE B n ns e c->SE B n ns (.Call f [e] [⟨some JH,.Lambda a b sc lp,kp⟩] pos) (.EW c cb)
structure Ctx (B:Base) (n:Nat):Prop where
 HB:gX B
 HD:q8 B
 HC:qp B n
 HK:zX B n
structure PE (ns:gq) (e:gg) (c:CE):Prop where
 ok:xc e=true
 se:∀{B n},Ctx B n->SE B n ns e c
 st:∀{B n},Ctx B n->ST B n ns e c
 su:∀{B n},Ctx B n->DH e=true->SU B n ns e c
noncomputable abbrev RE (ns:gq) (e:gg):=Option {c:CE // PE ns e c}
theorem rO (c:∀{B n},Ctx B n->SE B n r a0 g) (f:∀(X:zU) (m:MM) (a:AS) (Q:Bool->AS->Prop),VT PG X g (VE PG X g) m a Q=VE PG X g m a λv a=>∃b,nQ a v b/\Q b a) (i:∀j d,Aa a0 j d=(do let v <-d;GD a0.pos;yT [v] (EG v))) (e:xc a0=true) (k:DH a0=false):PE r a0 g:=
 ⟨e,c,λC=>AB (c C) (f _) i,λ_ h=>by rw [k] at h;contradiction⟩
noncomputable def Fx (e:gg):Option (PLift (xo e)):=
 rF 23 e ⟨λ_ _=>some ⟨λ_ _ _=>rfl⟩⟩ (rF 20 e ⟨λ_ _ _=>some ⟨λ_ _ _=>rfl⟩⟩ (rF 21 e ⟨λ_ _ _=>some ⟨λ_ _ _=>rfl⟩⟩ (rF 6 e ⟨λ_ _ _=>some ⟨λ_ _ _=>rfl⟩⟩ (rF 16 e ⟨λf as ks q=>
  rF 20 f ⟨λ_ _ _=>some ⟨λ_ _ _=>rfl⟩⟩ (rF 23 f ⟨λx p=>match as,ks with
   |[],[]=>if h:x=Hb then none else some ⟨DD h⟩
   |_::_,_=>some ⟨λ_ _ _=>rfl⟩
   |_,_=>none⟩ none)⟩ none))))
structure U8 (ns:gq) (es:List gg) (cs:wL):Prop where
 ok:Ao es=true
 T5:∀{B n},Ctx B n->LM B n ns es cs
 V0:∀{B n},Ctx B n->Pf B n ns es cs
 len:cs.len=es.length
section
variable (ns:gq) (f:(e:gg)->RE ns e)
noncomputable def Sz:(es:List gg)->Option {cs:wL // U8 ns es cs}
 |[]=>some ⟨.nil,rfl,λ_=>DA,λ_=>.nil,rfl⟩
 |e::r=>(f e).bind λa=>(Sz r).map λb=>⟨.cons a.1 b.1,by show (xc e&&Ao r)=true;rw [a.2.ok,b.2.ok];rfl,λC=>xm a.2.ok (a.2.se C) (b.2.T5 C),λC=>.cons (a.2.st C) (b.2.V0 C),congrArg rY b.2.len⟩
theorem AK {x:j9} {c:CE} (h:uB GG ns x=some c):(∃v,c= .cst v)\/∃i,c= .var i:=
 (Cr _ h).2.elim (λh=>eS h.2 λv _ e=>.inl ⟨v,e⟩) λ⟨_,i,_,_,_,e⟩=>.inr ⟨i,e⟩
noncomputable def T6 (x:j9) (p):RE ns (.Name x p):=(wi (uB GG ns x)).map λc=>⟨c.1,rO (λC=>xj C.HB c.2) (λX m st Q=>by
 rcases AK ns c.2 with ⟨v,e⟩ |⟨i,e⟩<;>rw [e]<;>rfl) (λ_ _=>rfl) rfl rfl⟩
noncomputable def T7:(o:Option gg)->Option {c:CE // ∀{B n},Ctx B n->SO B n ns o c}
 |none=>some ⟨.cst .none,λ_=>Fd⟩
 |some e=>(f e).map λa=>⟨a.1,λC=>Fe (a.2.se C)⟩
noncomputable def QC (op:Vm) (p:Eu):(vs:List gg)->RE ns (.BoolOp op vs p)
 |[]=>none
 |[e]=>(f e).map λa=>⟨a.1,rfl,λC=>JN (a.2.se C),λC=>Hi (a.2.st C),λ_ h=>nomatch h⟩
 |e::g::r=>(f e).bind λa=>(QC op p (g::r)).map λb=>match op,b with
  | .And,b=>⟨.and a.1 b.1,rfl,λC=>snd_and (a.2.se C) (b.2.se C),λC=>L3 (a.2.st C) (b.2.st C),λ_ h=>nomatch h⟩
  | .Or,b=>⟨.or a.1 b.1,rfl,λC=>Rh (a.2.se C) (b.2.se C),λC=>O3 (a.2.st C) (b.2.st C),λ_ h=>nomatch h⟩
noncomputable def kPairs:(ks:List (Option gg))->(vs:List gg)->Option {cs:wL // ∀{B n},Ctx B n->uN B n ns ks vs cs}
 |[],[]=>some ⟨.nil,λ_=>.nil⟩
 |some k::ks,v::vs=>(f k).bind λa=>(f v).bind λb=>(kPairs ks vs).map λc=>⟨.cons a.1 (.cons b.1 c.1),λC=>.cons (a.2.se C) (b.2.se C) (c.2 C)⟩
 |_,_=>none
noncomputable def V1 (l:gg) (p:Eu):(ops:List Ez)->(cs:List gg)->RE ns (.Compare l ops cs p)
 |[o],[e]=>(f l).bind λa=>(f e).map λb=>⟨.cmp a.1 (zF o) b.1,rfl,λC=>LX C.HB C.HD (a.2.se C) b.2.ok (b.2.se C),λC=>JO C.HB C.HD (a.2.se C) b.2.ok (b.2.se C),λ_ h=>nomatch h⟩
 |[o,q],[e,g]=>(f l).bind λa=>(f e).bind λb=>(f g).map λc=>⟨.EV a.1 (zF o) b.1 (zF q) c.1,rfl,λC=>LY C.HB C.HD (a.2.se C) b.2.ok (b.2.se C) c.2.ok (c.2.se C),λC=>JP C.HB C.HD (a.2.se C) b.2.ok (b.2.se C) c.2.ok (c.2.se C),λ_ h=>nomatch h⟩
 |_,_=>none
noncomputable def YS (e:gg) (p:Eu):(o:UnaryOp)->RE ns (.UnaryOp o e p)
 | .USub=>(f e).map λa=>⟨.neg a.1,rO (λC=>IK (a.2.se C)) (λ_ _ _ _=>rfl) (λ_ _=>rfl) rfl rfl⟩
 | .Not=>(f e).map λa=>⟨.not a.1,rfl,λC=>O1 (a.2.se C),λC=>LZ (a.2.st C),λ_ h=>nomatch h⟩
 |_=>none
noncomputable def YT (v:gg) (pos:Eu) (s:gg):RE ns (.Subscript v s pos):=rF 26 s ⟨λl u w p=>match l,u,w with
 |l,u,none=>(f v).bind λe=>(T7 ns f l).bind λa=>(T7 ns f u).map λb=>⟨.t_ e.1 a.1 b.1,rO (λC=>O4 (e.2.se C) (a.2 C) (b.2 C)) (λ_ _ _ _=>rfl) (λ_ _=>rfl) rfl rfl⟩
 |none,none,some w=>rF (M:=λw=>RE ns (.Subscript v (.Slice none none (some w) p) pos)) 3 w ⟨λo x q=>rF (M:=λx=>RE ns (.Subscript v (.Slice none none (some (.UnaryOp o x q)) p) pos)) 19 x ⟨λc k p=>match o,c with
  | .USub,.int 1=>(f v).map λe=>⟨.rev e.1,rO (λC=>O5 (e.2.se C)) (λ_ _ _ _=>rfl) (λ_ _=>rfl) rfl rfl⟩
  |_,_=>none⟩ none⟩ none
 |_,_,_=>none⟩ ((f v).bind λe=>(f s).map λi=>⟨.sub e.1 i.1,rO (λC=>IM (e.2.se C) (i.2.se C)) (λ_ _ _ _=>rfl) (λ_ _=>rfl) rfl rfl⟩)
inductive uO (ns:gq):List uo->Gens->Prop where
 |nil:uO ns [] .nil
 |cons {t i:gg} {fs:List gg} {gs:List uo} {tg:List Nat} {ci:CE} {cs:wL} {rest:Gens}:An ns t=some tg->PE ns i ci->U8 ns fs cs->uO ns gs rest->uO ns (⟨t,i,fs,0⟩::gs) (.cons tg ci cs rest)
noncomputable def QD:(gs:List uo)->Option {g:Gens // uO ns gs g}
 |[]=>some ⟨.nil,.nil⟩
 |⟨t,i,fs,0⟩::gs=>(wi (An ns t)).bind λtg=>(f i).bind λci=>(Sz ns f fs).bind λcs=>(QD gs).map λg=>⟨.cons tg.1 ci.1 cs.1 g.1,.cons tg.2 ci.2 cs.2 g.2⟩
 |_=>none
end
theorem J9 (C:Ctx c a) (i:SE c a r a0 g) (d:uO r br bD):
 ∃(j:g0->yX->N5 Unit) (P:MM->MM->Prop),(∀e D b,sZ (.ListComp a0 (⟨aH,aX,az,0⟩::br) aJ ae) 0 e (.ref D) b=uM aH aX az e (j D b) b (.compLoop (.ListComp a0 (⟨aH,aX,az,0⟩::br) aJ ae) 0 e (.ref D) b))/\
  CC c a r P j (VG PG (eF PG a) (VE PG (eF PG a) g) bD)/\∀m,P m m:=by
 induction d using uO.casesOn with
 |nil=>exact mU _ _ (ze rfl rfl) (Ml i) (λ_=>rfl)
 |cons l f k d=>
  induction d using uO.casesOn with
  |nil=>exact mU _ _ (xt rfl rfl) (Rz C.HB rfl rfl l f.ok (f.se C) (k.V0 C) i) (λ_=>trivial)
  |cons _ _ _ _=>
   refine mU _ (λ_ _=>True) (xt rfl rfl) (λA b m t s D u K q F p n h=>?_) (λ_=>trivial)
   have o:=h.1
   contradiction
theorem Pm (j:Du aJ=true) (h:q5 r aJ.names=true) (m:PE aJ.names a0 D) (l:An aJ.names aH=some C) (c:PE r aX g) (k:U8 aJ.names az aq) (e:uO aJ.names br bD):
 PE r (.ListComp a0 (⟨aH,aX,az,0⟩::br) aJ ae) (.comp (qo r aJ.names) D C g aq bD):=by
 have b:∀{B n},Ctx B n->SE B n r (.ListComp a0 (⟨aH,aX,az,0⟩::br) aJ ae) (.comp (qo r aJ.names) D C g aq bD)/\SU B n r (.ListComp a0 (⟨aH,aX,az,0⟩::br) aJ ae) (.comp (qo r aJ.names) D C g aq bD):=λa=>by
  refine jU (J9 a (aH:=aH) (aX:=aX) (az:=az) (aJ:=aJ) (ae:=ae) (m.se a) e) λp P d o f=>?_
  exact Mm a.HB j h d l c.ok (c.se a) (k.V0 a) o f
 exact ⟨rfl,λa=>(b a).1,λa=>AB (b a).1 (λ_ _ _=>rfl) (λ_ _=>rfl),λa _=>(b a).2⟩
noncomputable def notAttr (e:gg):Bool:=!(e.ctorIdx==20)
section
variable (ns:gq) (F:(ns:gq)->(e:gg)->RE ns e)
noncomputable def T8 (as:List gg) (pos:Eu) (hl:as.length<20) (es:{cs:wL // U8 ns as cs}) (f:gg):RE ns (.Call f as [] pos):=rF 20 f
 ⟨λo nm ap=>(Fx o).bind λh=>(oJ (decide (ap.endLine=pos.line))).bind λh'=>(F ns o).bind λe=>(wi (r9 AT nm)).map λx=>
  ⟨.fO e.1 x.1 es.1,rO (λC=>JW C.HB C.HC TO (TP C.HB) h.down (of_decide_eq_true h'.down) (pv x.2) hl es.2.ok (e.2.se C) (es.2.T5 C)) (λ_ _ _ _=>rfl) (λ_ _=>rfl) rfl rfl⟩⟩
 ((oJ (notAttr f)).bind λh=>(F ns f).map λg=>
  ⟨.call g.1 es.1,rO (λC=>Fg C.HB C.HC (λ_ _ _ q=>by have:=h.down;rw [q] at this;contradiction) es.2.ok (g.2.se C) (es.2.T5 C)) (λ_ _ _ _=>rfl) (λ_ _=>rfl) rfl rfl⟩)
noncomputable def V2 (kL:(ns:gq)->(b:gg)->Option {c:CE // DO ns b c}) (f e:gg) (pos:Eu):(kws:List W0)->RE ns (.Call f [e] kws pos)
 |[⟨some k,l,kp⟩]=>rF (M:=λl=>RE ns (.Call f [e] [⟨some k,l,kp⟩] pos)) 4 l ⟨λa b sc lp=>(oJ (yg ns f)).bind λh1=>(oJ (Ct a sc)).bind λh2=>(oJ (BR ns)).bind λh3=>(oJ (decide (k=JH))).bind λh4=>(kL sc.names b).bind λcb=>(F ns e).map λc=>
  ⟨.EW c.1 cb.1,rO (λC=>by rw [of_decide_eq_true h4.down];exact C.HK ns f e c.1 a b sc lp kp pos cb.1 h1.down h2.down h3.down cb.2 c.2.ok (c.2.se C)) (λ_ _ _ _=>rfl) (λ_ _=>rfl) rfl rfl⟩⟩ none
 |_=>none
variable (kL:(ns:gq)->(b:gg)->Option {c:CE // DO ns b c})
noncomputable def T9 (f:gg) (pos:Eu):(as:List gg)->(kws:List W0)->RE ns (.Call f as kws pos)
 |as,[]=>(oJ (decide (as.length<20))).bind λh=>(Sz ns (F ns) as).bind λes=>T8 ns F as pos (of_decide_eq_true h.down) es f
 |[e],kws=>V2 ns F kL f e pos kws
 |_,_=>none
noncomputable def T' (elt:gg) (sc:Es) (p:Eu):(gs:List uo)->RE ns (.ListComp elt gs sc p)
 |⟨t,i,fs,0⟩::gs=>(oJ (Du sc)).bind λh=>(oJ (q5 ns sc.names)).bind λh'=>(F sc.names elt).bind λce=>(wi (An sc.names t)).bind λtg=>(F ns i).bind λci=>(Sz sc.names (F sc.names) fs).bind λcs=>(QD sc.names (F sc.names) gs).map λg=>
  ⟨.comp (qo ns sc.names) ce.1 tg.1 ci.1 cs.1 g.1,Pm h.down h'.down ce.2 tg.2 ci.2 cs.2 g.2⟩
 |_=>none
noncomputable def YU (e:gg):RE ns e:=
 rF 23 e ⟨λx p=>T6 ns x p⟩<|
 rF 19 e ⟨λc u p=>(wi (LD c)).map λv=>⟨.cst v.1,rO (λ_=>snd_const v.2) (λ_ _ _ _=>rfl) (λ_ _=>rfl) rfl rfl⟩⟩<|
 rF 0 e ⟨λop vs p=>QC ns (F ns) op p vs⟩<|
 rF 2 e ⟨λl op r p=>(wi (TA op)).bind λo=>(F ns l).bind λa=>(F ns r).map λb=>⟨.bin o.1 a.1 b.1,rO (λC=>O0 o.2 (a.2.se C) (b.2.se C)) (λ_ _ _ _=>rfl) (λ_ _=>rfl) rfl rfl⟩⟩<|
 rF 3 e ⟨λo e p=>YS ns (F ns) e p o⟩<|
 rF 5 e ⟨λt b o p=>(F ns t).bind λx=>(F ns b).bind λy=>(F ns o).map λz=>⟨.ite x.1 y.1 z.1,rfl,λC=>O2 (x.2.st C) (y.2.se C) (z.2.se C),λC=>L0 (x.2.st C) (y.2.st C) (z.2.st C),λ_ h=>nomatch h⟩⟩<|
 rF 6 e ⟨λks vs p=>(oJ (decide (ks.length<15))).bind λh=>(kPairs ns (F ns) ks vs).map λc=>⟨.dict c.1,rO (λC=>Mu (of_decide_eq_true h.down) (c.2 C)) (λ_ _ _ _=>rfl) (λ_ _=>rfl) rfl rfl⟩⟩<|
 rF 24 e ⟨λes p=>(oJ (decide (es.length<20))).bind λh=>(Sz ns (F ns) es).map λc=>⟨.lst c.1,rO (λC=>OZ (by rw [c.2.len];exact of_decide_eq_true h.down) (c.2.T5 C)) (λ_ _ _ _=>rfl) (λ_ _=>rfl) rfl rfl⟩⟩<|
 rF 25 e ⟨λes k p=>(oJ (decide (es.length<20))).bind λh=>(Sz ns (F ns) es).map λc=>⟨.tup c.1,rO (λC=>IJ (by rw [c.2.len];exact of_decide_eq_true h.down) (c.2.T5 C)) (λ_ _ _ _=>rfl) (λ_ _=>rfl) rfl rfl⟩⟩<|
 rF 15 e ⟨λl ops cs p=>V1 ns (F ns) l p ops cs⟩<|
 rF 20 e ⟨λv a p=>(Fx v).bind λh=>(F ns v).bind λe=>(wi (r9 AT a)).map λx=>⟨.attr e.1 x.1,rO (λC=>L7 C.HB h.down (pv x.2) (e.2.se C)) (λ_ _ _ _=>rfl) (λ_ _=>rfl) rfl rfl⟩⟩<|
 rF 21 e ⟨λv s p=>YT ns (F ns) v p s⟩<|
 rF 16 e ⟨λf as kws p=>T9 ns F kL f p as kws⟩<|
 rF 8 e ⟨λelt gs sc p=>T' ns F elt sc p gs⟩<|
 none
noncomputable def PS (ns:gq) (s:zw) (c:CS):Prop:=∀{B n},Ctx B n->SS B n ns s c
noncomputable def QE (ns:gq) (s:List zw) (c:w_):Prop:=∀{B n},Ctx B n->O9 B n ns s c
noncomputable def V3 (e:gg) (p:Eu) (v:{c:CE // PE ns e c}) (k:Nat) (q:Eu):(ts:List gg)->E0 (.Tuple ts k q) e=true->Option {c:CS // PS ns (.Assign [.Tuple ts k q] e p) c}
 |[s,t],hw=>rF (M:=λs=>E0 (.Tuple [s,t] k q) e=true->Option {c:CS // PS ns (.Assign [.Tuple [s,t] k q] e p) c}) 20 s ⟨λo a p1=>rF (M:=λt=>E0 (.Tuple [.Attribute o a p1,t] k q) e=true->Option {c:CS // PS ns (.Assign [.Tuple [.Attribute o a p1,t] k q] e p) c}) 20 t
  ⟨λo' a' p2 hw=>(F ns o).bind λx=>(wi (r9 AT a)).bind λi=>(F ns o').bind λx'=>(wi (r9 AT a')).map λi'=>
   ⟨.EX x.1 i.1 x'.1 i'.1 v.1,λC=>Mg C.HB (pv i.2) (pv i'.2) hw v.2.ok (v.2.se C) (x.2.se C) (x'.2.se C)⟩⟩ λ_=>none⟩ (λ_=>none) hw
 |_,_=>none
noncomputable def V4 (e:gg) (p:Eu) (v:{c:CE // PE ns e c}) (t:gg):E0 t e=true->Option {c:CS // PS ns (.Assign [t] e p) c}:=
 rF 23 t ⟨λx q _=>(wi (ot ns x)).map λi=>⟨.asg i.1 v.1,λC=>Rx i.2 v.2.ok (v.2.se C) (v.2.su C)⟩⟩<|
 rF 25 t ⟨λts k q hw=>(V3 ns F e p v k q ts hw).orElse λ_=>(wi (uC ns ts)).bind λl=>(oJ (decide (2<=l.1.length))).bind λh=>(oJ (decide l.1.Nodup)).map λh'=>⟨.td l.1 v.1,λC=>Pa l.2 (of_decide_eq_true h.down) (of_decide_eq_true h'.down) hw v.2.ok (v.2.se C)⟩⟩<|
 rF 20 t ⟨λo a q _=>(F ns o).bind λx=>(wi (r9 AT a)).map λi=>⟨.iE x.1 i.1 v.1,λC=>Pb C.HB (pv i.2) v.2.ok (v.2.se C) (x.2.se C)⟩⟩<|
 rF 21 t ⟨λo i q _=>(F ns o).bind λx=>rF (M:=λi=>Option {c:CS // PS ns (.Assign [.Subscript o i q] e p) c}) 26 i ⟨λl u w q'=>match l,u,w with
  |some l,some u,none=>(F ns l).bind λa=>(F ns u).map λb=>⟨.Lz x.1 a.1 b.1 v.1,λC=>Pd v.2.ok (v.2.se C) (x.2.se C) (a.2.se C) (b.2.se C)⟩
  |_,_,_=>none⟩ ((F ns i).map λk=>⟨.ua x.1 k.1 v.1,λC=>Pc C.HB v.2.ok (v.2.se C) (x.2.se C) (k.2.se C)⟩)⟩<|
 λ_=>none
variable (S:(ns:gq)->(s:List zw)->Option {c:w_ // QE ns s c})
@[elab_as_elim] noncomputable def RB {M:zw->Type} (k:Nat) (s:zw) (f:Stmt.ctorElimType.{1} (motive_2:=M) k) (g:M s):M s:=if h:k=s.ctorIdx then Stmt.ctorElim k s h f else g
noncomputable def kS (s:zw):Option {c:CS // PS ns s c}:=
 RB 5 s ⟨λts e p=>match ts with
  |[t]=>(oJ (E0 t e)).bind λh=>(F ns e).bind λv=>V4 ns F e p v t h.down
  |_=>none⟩<|
 RB 24 s ⟨λe p=>(oJ (Iu e)).bind λh=>(F ns e).map λv=>⟨.ex v.1,λC=>TS h.down (v.2.se C)⟩⟩<|
 RB 3 s ⟨λe p=>match e with
  |none=>some ⟨.ret (.cst .none),λ_=>O_⟩
  |some e=>(F ns e).map λv=>⟨.ret v.1,λC=>Rt (v.2.se C)⟩⟩<|
 RB 12 s ⟨λt a b p=>(F ns t).bind λx=>(S ns a).bind λy=>(S ns b).map λz=>⟨.iff x.1 y.1 z.1,λC=>TR (x.2.st C) (y.2 C) (z.2 C)⟩⟩<|
 RB 11 s ⟨λt a b p=>match b with
  |[]=>(F ns t).bind λx=>(S ns a).map λy=>⟨.EY x.1 y.1,λC=>Me (x.2.st C) (y.2 C)⟩
  |_=>none⟩<|
 RB 9 s ⟨λt i a b p=>match b with
  |[]=>(wi (An ns t)).bind λtg=>(F ns i).bind λx=>(S ns a).map λy=>⟨.kj tg.1 x.1 y.1,λC=>Rw C.HB tg.2 x.2.ok (x.2.se C) (y.2 C)⟩
  |_=>none⟩<|
 RB 26 s ⟨λp=>some ⟨.brk,λ_=>Ru⟩⟩ none
end
structure S0 (ns:gq) (e:gg) (c:CE):Prop where
 ok:xc e=true
 se:∀{B n},gX B->SE B n ns e c
 lv:(∃j i,c= .sub (.var j) (.cst (.int i)))\/∃v i,c= .sub (.cst v) (.cst (.int i))
noncomputable def QF (ns:gq) (e:gg):Option {c:CE // S0 ns e c}:=rF 21 e ⟨λy z r=>rF (M:=λy=>Option {c:CE // S0 ns (.Subscript y z r) c}) 23 y ⟨λx p=>rF (M:=λz=>Option {c:CE // S0 ns (.Subscript (.Name x p) z r) c}) 19 z ⟨λc k q=>match c with
 | .int i=>(wi (uB GG ns x)).map λc=>⟨.sub c.1 (.cst (.int i)),rfl,λHB=>IM (xj HB c.2) (snd_const rfl),(AK ns c.2).elim (λ⟨v,e⟩=>.inr ⟨v,_,by rw [e]⟩) λ⟨j,e⟩=>.inl ⟨j,_,by rw [e]⟩⟩
 |_=>none⟩ none⟩ none⟩ none
noncomputable def Pn:Str:=⟨⟨[108,101,110]⟩⟩
theorem AL (h:¬ao=tf) (a:ic r ao=some .globalImplicit) (b:ic GG ao=some i):uB GG r ao=some (.cst i):=by
 unfold uB;rw [if_neg h,a];exact congrArg (Option.map CE.cst) b
theorem J':ic GG Pn=some (.bi 0):=by kernel_rfl
theorem Mv (a:ao=Pn) (b:ic r ao=some .globalImplicit):uB GG r ao=some (.cst (.bi 0)):=AL (a▸by unfold Pn tf;decide+kernel) b (a▸J')
theorem RC (c:S0 r a0 g) (d:S0 r aH D) (l:uB GG r ao=some (.cst (.bi 0))):DO r (.Tuple [.UnaryOp .USub (.Call (.Name ao ae) [a0] [] b9) cH,aH] a cW) (.tup (.cons (.neg (.call (.cst (.bi 0)) (.cons g .nil))) (.cons D .nil))):=λB n b p=>
 ⟨IJ (show 2<20 by decide) (xm rfl (IK (Fg b p (λ_ _ _=>(by (repeat intro _);contradiction)) (by show (xc a0&&true)=true;rw [c.ok];rfl) (xj b l) (xm c.ok (c.se b) DA))) (xm d.ok (d.se b) DA)),
  λk m s Q h=>by
   rcases c.lv with ⟨j,i,e⟩ |⟨j,i,e⟩<;>rcases d.lv with ⟨q,o,f⟩ |⟨q,o,f⟩<;>rw [e,f] at h⊢<;>exact h⟩
noncomputable def V5 (ns:gq) (b:gg):Option {c:CE // DO ns b c}:=rF 25 b ⟨λes x p=>match es with
 |[u,b]=>rF (M:=λu=>Option {c:CE // DO ns (.Tuple [u,b] x p) c}) 3 u ⟨λo w p1=>rF (M:=λw=>Option {c:CE // DO ns (.Tuple [.UnaryOp o w p1,b] x p) c}) 16 w ⟨λf as ks p2=>rF (M:=λf=>Option {c:CE // DO ns (.Tuple [.UnaryOp o (.Call f as ks p2) p1,b] x p) c}) 23 f ⟨λf fp=>match o,as,ks with
  | .USub,[a],[]=>(QF ns a).bind λa'=>(QF ns b).bind λb'=>(oJ (decide (f=Pn))).bind λh1=>(oJ (decide (ic ns f=some .globalImplicit))).map λh2=>⟨_,RC a'.2 b'.2 (Mv (of_decide_eq_true h1.down) (of_decide_eq_true h2.down))⟩
  |_,_,_=>none⟩ none⟩ none⟩ none
 |_=>none⟩ none
noncomputable def kE (kL:(ns:gq)->(b:gg)->Option {c:CE // DO ns b c}):Nat->(ns:gq)->(e:gg)->RE ns e
 |0,_,_=>none
 |k+1,ns,e=>YU ns (kE kL k) kL e
noncomputable def V6 (F:(ns:gq)->(e:gg)->RE ns e):Nat->(ns:gq)->(s:List zw)->Option {c:w_ // QE ns s c}
 |0,_,_=>none
 |k+1,ns,[]=>some ⟨.nil,λ_=>O'⟩
 |k+1,ns,s::r=>(kS ns F (V6 F k) s).bind λa=>(V6 F k ns r).map λb=>⟨.cons a.1 b.1,λC=>Md (a.2 C) (b.2 C)⟩
noncomputable def T_ (ns:gq) (b:List zw):Option {c:w_ // QE ns b c}:=V6 (kE V5 30) 60 ns b
noncomputable def V7 (dv:List AV) (sc:Es) (body:List zw):(a:y4)->Option {F:mV // F.Iq=dv/\∃as dfl,T4 QE ⟨a,body,sc⟩ F as dfl}
 |⟨[],as,none,[],[],none,dfl⟩=>(oJ (Ap sc)).bind λh1=>(oJ (q5 [] sc.names)).bind λh2=>(oJ (decide (argNames as).Nodup)).bind λh3=>(wi (Dv (slots sc.names) (argNames as))).bind λps=>(T_ sc.names body).map λb=>
  ⟨⟨ps.1,dv,(slots sc.names).length,b.1⟩,rfl,as,dfl,rfl,h1.down,wh h2.down,of_decide_eq_true h3.down,DN h1.down (wh h2.down) ps.2,rfl,b.2⟩
 |_=>none
noncomputable def Mw (B:Base):Prop:=∀k,zG B k
theorem AM (i:gX c) (x:q8 c) (q:AJ QE c) (w:Mw c) (u:2<=a->zX c a) (o:qp c a/\Sy c a):qp c (a+1)/\Sy c (a+1):=by
 have n:Sy c (a+1):=λA k j m Q l s Z h d r e y=>Pk i q (λt D E B z=>z ⟨i,x,o.1,u t⟩) h d r e y
 refine ⟨λf j m Q A F l s h d r g e=>?_,n⟩
 induction f using AV.casesOn with
 |fn k=>
  obtain rfl:=Qx g
  exact QU (n A k j m Q l s _ h d r e λv G p=>p)
 |cls C=>obtain rfl:=LG g;exact Ms i o.2 h d r e
 |bi b=>
  obtain rfl:=Qy g
  exact w b A j m Q l s h (d.le (by exact df 1 a)) r e
 |_=>exact h.elim
theorem Mx (b:gX c) (g:q8 c) (e:AJ QE c) (d:Mw c) (j:∀n,2<=n->qp c 1->qp c n->zX c n):∀n,qp c n/\Sy c n:=by
 have a:qp c 0/\Sy c 0:=⟨λf l o Q A p m s h=>h.elim,λA k l o Q m s Z h=>h.elim⟩
 have c1:=AM b g e d (λh=>absurd h (by decide)) a
 intro n
 induction n with
 |zero=>exact a
 |succ n i=>exact AM b g e d (λh=>j n h c1.1 i.1) i
end
theorem J_ (r:R c b m) (p:L.units+20<vC) (h:b a=some (.list l)) (j:b d=some (.list l)) (f:∀x∈l,Plain x):SeqAt.EqAt L m (.ref a) (.ref d) true:=by
 refine mT (q7 r h f) λg t s=>?_;obtain ⟨u,k⟩:=g
 refine mT (q7 r j f) λg q v=>?_;obtain ⟨n,o⟩:=g
 have e:mZ (.list (jZ l)) (.list (jZ l))=true:=(show sm _ _=true↔_ from E5 f f).mpr rfl
 have:=SeqAt.eqAt_reads (.list (jZ l)) (.list (jZ l)) L m _ _ u n k o t q (by
  have i:Et (.list (jZ l))=qr (jZ l)+1:=rfl
  exact um p (n1 i (fi s)) rfl)
 rw [e] at this
 exact this
theorem My (B:R c b m) (y:L.units+20<vC) (j:h_ c m.heap (cm.map (·.2)) (aC.map (·.2))) (o:aC.map (·.1)=cm.map (λp=>.int p.1)) (t:(aC.map (·.1)).Nodup):
 ∀{ka:List (Int×eJ)} {a:List (AV×AV)},h_ c m.heap (ka.map (·.2)) (a.map (·.2))->a.map (·.1)=ka.map (λp=>.int p.1)->
 (∀l∈a,∃i g d,l=(.int i,.ref g)/\b g=some (.list d)/\(∀x∈d,Plain x)/\∃n,(AV.int i,AV.ref n)∈aC/\b n=some (.list d))->KeqHits L m cm ka true:=by
 intro T
 induction T with
 |nil=>
  intro a q f h
  exact .nil
 |cons M ka D=>
  intro a q f h
  obtain ⟨G,u⟩:=M
  induction a using el with
  |nil=>clear B y j o t D h q;contradiction
  |cons p a=>
   refine Ij (h p (.head _)) λi g d N=>Ll N λK F O n I=>iP I λE Q=>?_;subst K
   simp only [eI,iA,AV.int.injEq] at f
   cases q with
   |cons z H=>
    have:=gP z
    refine eS (o6 j o t E) λw J C=>?_
    have P:=gP C
    clear j o t E z C;subst P
    have:=KeqHits.hit (A:=L) (s:=m) (kb:=cm) (k:=G) (v:=u) (r:=ka) (e:=true) (b:=true) (f.1▸J) (by rw [show u= .ref g from this];exact J_ B y F Q O) (D H f.2 λl S=>h l (.tail _ S))
    exact this
set_option tactic.hygienic true in
theorem RF (D:gX c):q8 c:=λn A st s a I b Q J kl H r g m e=>by
 have u:=H.Az
 have B:=r.uF D g
 have C:=r.uF D m
 obtain ⟨d,l⟩:=r.oT g
 obtain ⟨t,O⟩:=r.oT m
 have E:∀{ka kb:List (Int×eJ)} {K:Bool},s.heap.DictOf (ub c) a ka->s.heap.DictOf (ub c) I kb->(ka.length=kb.length->KeqHits A.in1 s kb ka K)->(ka.length==kb.length&&K)=b->
  ((∀y,fI s y->Q (.bool b) y)->WE c A (qS .Eq (.ref a) (.ref I)) Q s)/\((∀y,fI s y->Q (.bool (!b)) y)->WE c A (qS .NotEq (.ref a) (.ref I)) Q s):=λR U P T=>
  ⟨λh=>keq_eq B C R U (by exact pO u) P (by rw [T];exact h s (hU _)),λh=>keq_ne B C R U (by exact pO u) P (by rw [T];exact h s (hU _))⟩
 cases e with
 |plain hv _ _ _=>contradiction
 |list h _ _ _ _ _=>rw [g] at h;(injection h;contradiction)
 |Im h G f=>
  rename_i km
  rw [g] at h;injection h with h;injection h with h;subst h
  rw [m] at f;injection f with f;injection f with f;subst f
  obtain ⟨ka,v,q,j⟩:=d.GQ G
  obtain ⟨kb,x,F,k⟩:=t.GQ (λp w=>by exact (eg w).elim)
  have X:kb=[]:=by simpa using k.symm
  subst X
  have o:ka.length=J.length:=by have:=congrArg fk j;simpa using this.symm
  refine E v.dictOf x.dictOf (K:=true) (λz=>?_) ?_
  .have:ka=[]:=gW.mp z
   clear D H r g u B C d l G E m t O v q j x F k o z;subst this;exact .nil
  .rw [o]
   clear D H r g u B C d l G E m t O v q j x F k o;rcases J with ⟨⟩<;>rfl
 |Io h f N z o Z=>
  rename_i km kn
  rw [g] at h;injection h with h;injection h with h;subst h
  rw [m] at f;injection f with f;injection f with f;subst f
  obtain ⟨ka,v,q,j⟩:=d.GQ (λp w=>let ⟨i,_,_,e,_⟩:=N p w;(oq i (by rw [e])))
  obtain ⟨kb,x,F,k⟩:=t.GQ (λp w=>let ⟨i,_,_,e,_⟩:=z p w;(oq i (by rw [e])))
  have Y:ka.length=J.length:=by have:=congrArg fk j;simpa using this.symm
  have W:kb.length=kl.length:=by have:=congrArg fk k;simpa using this.symm
  refine E v.dictOf x.dictOf (K:=true) (λ_=>My r (by show A.units+1+20<vC;exact ul 21 u rfl) F k t.nodup q j λkv V=>?_) ?_
  .obtain ⟨i,S,M,rfl,L,h2⟩:=N kv V
   obtain ⟨rb,h3,h4⟩:=Z i S M V L
   exact ⟨i,S,M,rfl,L,h2,rb,h3,h4⟩
  .rw [Y,W,o];simp
theorem Po:sY (.type "list") (i3 "keys")=pure none:=am_miss_of_fast (by decide+kernel)
theorem wj {Q:Option eJ->eM->Prop} (j:m.heap.get? y=some (listOf bf a)) (q:L.handled=none) (h:∀f,fI m f->Q none f):
 gf (hX c.prog c.w) L (getAttr? (.ref y) (i3 "keys")) Q aG m:=by
 have r:=Po
 have p:(["__module__","__name__","__qualname__","__doc__","__annotations__"]:List j9).contains (i3 "keys")=false:=by decide+kernel
 have o:(i3 "keys").length+100<=sizeLine:=by rw [nG];decide+kernel
 obtain ⟨l,g,d,w,n⟩:=m
 have k:∀b,(⟨l,g,d,b,n⟩:eM).TypeIs (.ref y) "list":=λ_=>ei _ j rfl
 have s:=sub_AttributeError
 have v:=tY.lookup
 have B:=tY.bind (.ref y)
 have u:=am_list_getattr_none
 unfold getAttr? getAttrBy? getAttrBy
 repeat (any_goals (first |assumption |exact k _ |((with_reducible show gf _ _ (nF (C_ "list.__getattribute__") _ _) _ _ _);refine vX tY (k _) am_entry_list_getattribute (F.args_list_getattribute_2 _ _) (meets_getattribute_miss_list y bf a _ _ _ r p o) (iD j q (λt b e i=>?_))) |wp_step))
 refine qY i.there λA x z=>?_
 show gf _ _ (QZ _ _ _ _ _ _ _) _ _ _
 unfold QZ
 repeat (any_goals (first |assumption |wp_step))
 exact h _ ⟨i.of.keeps,rfl,rfl⟩
theorem Ht (r:R c b m) (e:b y=some (.dict aC)) (O:IntKeys aC) (E:aC.length<fG) (u:RV c m.heap J i) (I:∀F,R c (b.set y (.dict (dictPut aC (.int q) i))) F->St c b m (b.set y (.dict (dictPut aC (.int q) i))) F->bq () F):WE c L (K6 y (.int q bI) J) bq m:=by
 refine iP (r.oT e) λd l=>?_
 have v:ik c b y:=.inl (by rw [e];simp)
 refine gi (d.GQ O) λg N A f=>?_
 have M:g.length=aC.length:=by have:=congrArg fk f;simpa using this.symm
 refine wc (knd:=ub c) (pM _ _ q bI) N (λD n s j=>?_) (λD n s j=>?_) (a_ (by exact n1 M (eB E)) ia)
 .have k:=r.nR v j
  have w:AV.int q∈aC.map (·.1):=(oa f).mp (by induction U:jb g q with
   |none=>exact absurd U n
   |some _=>rfl)
  have a:dictPut aC (.int q) i=aC.map λp=>if p.1= .int q then (.int q,i) else p:=by unfold dictPut;rw [if_pos w]
  have B:RO c D y (.dict (dictPut aC (.int q) i)):=by
   refine .dict (.int (by rw [bb];exact s) ?_ ?_) (by rw [a,bb];exact l)
   .rw [a]
    clear a w n s N I E l d e M O
    induction aC generalizing g with
    |nil=>induction g using el with
     |nil=>exact .nil
     |cons _ _=>clear r u v j k A;contradiction
    |cons p ps Q=>
     induction g using el with
     |nil=>clear r u v j k Q A;contradiction
     |cons K g=>
      simp only [eI,iA] at f⊢
      cases A with
      |cons T V=>
       have P:(p.1=AV.int q)↔K.1=q:=by rw [f.1];exact ⟨λh=>by injection h,λh=>by rw [h]⟩
       refine .cons ?_ (Q _ V f.2)
       by_cases x:K.1=q
       .rw [if_pos x,if_pos (P.mpr x)];exact u.mono k
       .rw [if_neg x,if_neg (λz=>x (P.mp z))];exact T.mono k
   .rw [a,ew,ew]
    have S:aC.map ((λi=>i.1)∘λp=>if p.1= .int q then (.int q,i) else p)=aC.map (·.1):=by
     apply fo;intro p _;simp only [oA];split
     .rename_i W;exact W.symm
     .rfl
    have Y:g.map ((λp:Int×eJ=>AV.int p.1)∘λG=>if G.1=q then (G.1,J) else G)=g.map λp=>.int p.1:=by
     apply fo;intro p _;simp only [oA];split<;>rfl
    rw [S,Y];exact f
  obtain ⟨H,C⟩:=r.upd (t:=m.toks+1) (o:=.dict (dictPut aC (.int q) i)) e j (.inl (iD rfl (by (repeat intro _);contradiction) (by (repeat intro _);contradiction))) B
  exact I _ H C
 .have k:=r.nR v j
  have w:AV.int q∉aC.map (·.1):=λX=>by
   have:=(oa f).mpr X
   rw [n] at this;contradiction
  have a:dictPut aC (.int q) i=aC++[(.int q,i)]:=by unfold dictPut;rw [if_neg w]
  have B:RO c D y (.dict (dictPut aC (.int q) i)):=by
   refine .dict (.int (by rw [bh];exact s) ?_ ?_) (by rw [a,bh];exact E)
   .rw [a,b_,b_];exact (A.mono k).append (.cons (u.mono k) .nil)
   .rw [a,b_,b_,f];rfl
  obtain ⟨H,C⟩:=r.upd (t:=m.toks+1) (o:=.dict (dictPut aC (.int q) i)) e j (.inl (iD rfl (by (repeat intro _);contradiction) (by (repeat intro _);contradiction))) B
  exact I _ H C
theorem Fy (h:IntKeys aC) (i:Int) (x:AV):IntKeys (dictPut aC (.int i) x):=λp a=>by
 unfold dictPut at a
 split at a
 .refine iQ p (ck.mp a) λq b=>?_
  split
  .exact ⟨i,rfl⟩
  .exact h q b
 .rcases eG.mp a with a |a
  .exact h p a
  .rw [dt] at a;subst a;exact ⟨i,rfl⟩
theorem Pp (k x:AV):(dictPut aC k x).length<=aC.length+1:=by
 unfold dictPut
 split
 .rw [bb];exact eh aC.length 1
 .rw [bh];exact eK _
theorem uP:entryFor table "dict.update.loop"=some vZ.«dict.update.loop»:=entryFor_of_tree (by kernel_rfl)
theorem pw:plainId "dict.update.loop"=true:=by decide+kernel
theorem St.but (a:St c p ab b m) (d:vl y m aU) (h:ab.heap.get? y=none):St c p ab b aU:=
 ⟨λf o e g=>d.keep f o (λz=>by clear a d g;subst z;rw [h] at e;contradiction) (a.keep f o e g),a.foot⟩
theorem Mz (X:aW≠y) (P:L.handled=none) (W:c.h₀.get? cV=none) (S:m.heap.get? cV=none):∀(left:List (AV×AV)) {u:Nat} {j:Int} {a:List (AV×AV)} {g:AS} {s:eM},g y=some (.dict a)->g aW=some (.list l)->IntKeys a->l.drop u=left.map (λp=>.tup [p.1,p.2])->
 (∀p∈left,∃k,p.1= .int k)->a.length+left.length<=fG->R c g s->St c b m g s->wM c s.heap cV (.list aW l) l u->¬ik c g cV->
 (∀D,R c (g.set y (.dict (left.foldl (λd p=>dictPut d p.1 p.2) a))) D->St c b m (g.set y (.dict (left.foldl (λd p=>dictPut d p.1 p.2) a))) D->bJ (.ok (.ret .none)) D)->
 sv (hX c.prog c.w) L (.builtin "dict.update.loop" ⟨[.ref y,.ref cV,.int j 0,.none],[]⟩) bJ s:=by
 intro left
 induction left with
 |nil=>
  intro u j a g s H G I B J x r M q F V
  refine UB uP ?_
  rw [Around.under_plainId pw _]
  unfold vZ.«dict.update.loop»
  have C:l[u]? =none:=by
   rw [ix]
   have:=congrArg fk B
   rw [eA] at this;simp at this;exact nK this
  have N:∀o,s.heap.get? cV=some o->¬gc o:=λo e=>by refine eS q.nf λo' h Q=>?_;rw [e] at h;(injection h with h;subst h);exact Q
  refine b5 (Sx (er (q.done (A:=L.in1) r G P C) (λkz km E=>?_) λ_ _ e=>e))
  refine iP E λe z=>?_
  clear X P G I B J x q C E;subst e
  show gf _ _ (UM y []>>= λ_=>ret .none) _ _ _
  refine b5 (dk (dk (V km ?_ ?_)))
  .rw [Qm,AS.set_same H];exact r.but z F W N
  .rw [Qm,AS.set_same H];exact M.but z S
 |cons p left ih=>
  intro u j a g s H G I B J x r M q F V
  refine UB uP ?_
  rw [Around.under_plainId pw _]
  unfold vZ.«dict.update.loop»
  refine kf (J p (.head _)) λk kn=>?_
  have C:l[u]? =some (.tup [p.1,p.2]):=by
   have:(l.drop u)[0]? =some (.tup [p.1,p.2]):=by rw [B];rfl
   rw [pf] at this;simpa using this
  have N:∀o,s.heap.get? cV=some o->¬gc o:=λo e=>by refine eS q.nf λo' h Q=>?_;rw [e] at h;(injection h with h;subst h);exact Q
  refine b5 (Sx (er (q.next (A:=L.in1) r G C) (λkz km E=>?_) λ_ _ e=>e))
  refine r7 E λw e z Y Z=>?_
  clear P q C E;subst e
  have kq:=r.but z F W N
  have kC:=M.but z S
  refine g6 w (iG Z) λt kD n et lt qt=>?_
  refine jU qt.two λv1 v2 ev O q2=>?_
  rw [kn] at O
  refine kf (gr O) λt1 kB=>?_;clear W S r M N z Z lt qt O;subst kB
  dsimp only
  refine b5 (f7 (b5 (wpAny_tryCatch ?_)))
  unfold UJ
  refine b5 (sr (oS et) ?_)
  rw [if_pos (by decide)]
  refine b5 (sX et rfl (dk ?_))
  show gf _ _ (match kD.toList with |[k,v]=>yT [k,v] (K6 y k v) |kl=>_) _ _ _
  rw [ev]
  refine f7 (Sx (Ht kq H I (by simp at x;exact pO x) q2 λkF ky K=>?_))
  refine dk ⟨Wh pw _,?_⟩
  have kx:¬ik c (g.set y (.dict (dictPut a (.int k) p.2))) cV:=λf=>(K.foot cV f).elim F λkl=>by refine eS Y.nf λo e _=>?_;rw [kl] at e;contradiction
  refine ih (u:=u+1) (a:=dictPut a (.int k) p.2) (gZ _ _ _) ?_ (Fy I _ _) ?_ (λp' ku=>J p' (.tail _ ku)) ?_ ky (kC.trans K) ?_ kx ?_
  .rw [gu X];exact G
  .rw [<-ip,B];rfl
  .have:=Pp (aC:=a) (.int k) p.2
   simp at x;exact sw x this
  .exact Y.mono (K.frozen kq) λo e=>K.keep cV o e F
  .intro D T U
   rw [Oj] at T U
   rw [<-kn] at T U
   exact V D T U
theorem Pq:zG c 6:=λkl ky Z Q Y b h C r E=>by
 replace h:=qI h;obtain ⟨x0,rfl,h⟩:=h
 replace h:=xp h;obtain ⟨a,ps,rfl,e,h⟩:=h
 refine jo Y E.one λv H=>?_
 have:=gP H;clear E H;subst this
 refine gi h λV n O R=>?_
 refine gv (r.isList e) λM k g q l il hz=>?_
 have w:b.heap.get? b.heap.objs.size=none:=iq _
 refine callType_codes (Q₁:=λx f=>x= .ref b.heap.objs.size/\f={b with heap:=b.heap.push {cls:=.type "dict",data:=.dict #[]}}) F.kt_called_dict (F.kt_typeCall_dict_1 _) F.entry_dict_init (kt_code_dict_new _ ⟨rfl,rfl⟩) ?_
 intro x f X;refine Qq x X λJ=>?_
 have u:fI b f:=by rw [J];exact jA _ _
 have t:f.heap.DictAt (ub c) b.heap.objs.size [] 0:=by rw [J];exact n7 _ (#[]) (eX _ rfl) ⟨rfl,rfl,rfl⟩ rfl (by intro e he;simp at he) .nil eH
 generalize kx:b.heap.objs.size=D at w t
 obtain ⟨N,U,kq⟩:=r.Ma (o:=.dict []) u w (.dict (.int t .nil rfl) (fA _)) (by (repeat intro _);contradiction)
 have B:a≠D:=λq=>by subst q;rw [w] at g;contradiction
 have I:=t.dictOf.typeIs (s:=f)
 refine iD I (F.args_dict_init_2 _ _) ?_
 unfold vZ.«dict.__init__»
 refine b5 ?_
 unfold UI
 refine b5 (wN I ?_)
 show gf _ _ (pure (D,[La a])) _ _ _
 refine dk ?_
 show gf _ _ (zy "dict.__init__" D (.ref a) [] .none) _ _ _
 unfold zy
 have S:(Z.set D (.dict [])) a=some (.list ps):=by rw [gu B];exact e
 have m:=u.keep _ _ g
 refine b5 (sr (T:="list") (ei _ m rfl) ?_)
 rw [if_pos (by decide)]
 refine b5 (wj m C.handled λd j=>?_)
 simp only [Ib,if_true]
 refine b5 (nI ?_)
 have K:=U.grow j
 have P:d.heap.IsList a M:=tc _ (j.keep _ _ m) rfl _ rfl
 refine b5 (BK P ?_)
 have L:=jA d {cls:=.type "list_iterator",data:=.fields #[.ref a,.int 0 0]}
 have y:d.heap.get? d.heap.objs.size=none:=iq _
 have ku:b.heap.get? d.heap.objs.size=none:=by
  induction e:b.heap.get? d.heap.objs.size using d_ with
  |none=>rfl
  |some kz=>rw [j.keep _ _ (u.keep _ _ e)] at y;contradiction
 refine iP (K.kk y) λkm kn=>?_
 refine dk ⟨Wh pw _,?_⟩
 refine Mz (L:=kl.in1) (l:=ps) B C.handled kn ku V (u:=0) (a:=[]) (gZ _ _ _) S (λp n=>by exact (eg n).elim) n (λp W=>O p W) ?_ (K.grow L) (kq.trans (.grow (j.trans L))) ?_ km ?_
 .have:=congrArg fk n
  rw [bb] at this
  simp only [qL];exact n1 ((i4 _).trans this.symm) l
 .exact .list (gp _ (eX _ rfl) rfl rfl) (λq=>by
   have:=j.keep _ _ m
   rw [q,y] at this;contradiction)
 .intro s' G z
  rw [Oj] at G z
  exact ⟨rfl,.ref D,_,.ref D,G,z,R D N⟩
theorem RG (a:gX c):Mw c
 |0=>Rm a
 |1=>J4 a
 |2=>Rn
 |3=>Ro
 |4=>L9
 |5=>L_
 |6=>Pq
 |7=>Rr
 |8=>Rp
 |9=>Rq
 |10=>O8
 |_+11=>λ_ b _ _ _ _ h=>by contradiction<;>exact h.elim
structure xv (B:Base):Prop where
 hd:CodeHd B.h₀ B.lc B.tab
 bt:B.h₀.BuiltinsAt B.mg B.tab
 gt:iI≠B.tab
 He:B.He=B.E3++("<lambda>":j9)
theorem Hu (l:List eJ) (h:S3 l) (a:yV ae (l++[K5 q,K5 aB,J])=some aV):yV ae l=some aV\/aV=J:=by
 fun_induction S3 l with
 |case1=>
  simp only [BE,yV,K5] at a
  split at a
  .obtain rfl:=d5 a;exact .inr rfl
  .contradiction
 |case2 q t aB u x f c=>
  simp only [iN,yV] at a⊢
  split at a
  .rename_i b;rw [if_pos b];exact .inl a
  .rename_i b;rw [if_neg b];exact c h a
 |case3 l d e=>exact h.elim
theorem Pr (x:H.BuiltinsAt bu y) (k:∀b o,b≠y->H.get? b=some o->b8.get? b=some o):b8.BuiltinsAt bu y:=
 iW x λg o e f h a c d=>(n7 g o e f h a (k _ _ a c) d)
noncomputable def uQ (B:Base) (a:y4) (b:gg) (sc:Es) (cv:eJ):Obj:=
 {cls:=.type "function",data:=.func (kla_fn "<lambda>" B.He a b sc [] ((B.mg "__name__").getD .none) cv .none)}
variable {cJ:y4}
theorem MA (HB:gX c) (E:xv c) (r:R c b m) (kD:aa.globals=iI) (H:aa.code= .ref c.lc) (kx:GX aJ aa=pure []) (h:∀f l j,m.heap.get? f=none->l.heap.get? f=some (uQ c cJ a0 aJ j)->uD l.heap j c.He->R c b l->St c b m b l->aG (.ref f) l):
 WE c L (makeTail "<lambda>" c.He cJ (.expr a0) aJ aa .none .none none ae a) aG m:=by
 refine gi r.tab λps s w Q=>?_
 have C:=E.hd.keeps r.old
 have z:=HB.g.keeps r.old
 have ku:=Pr E.bt λa0 o _ e=>r.old a0 o e
 refine qY ku λbm ob X=>Cg X λN O kI kB T F V I=>?_
 unfold makeTail
 rw [kx,kD]
 refine b5 (dk ?_)
 simp only [Od,if_true]
 refine b5 (dk ?_)
 induction D:yV ae ps.toList using d_ with
 |some j=>
  refine b5 (wpAny_functionCode_hit H (C.code s w) D ?_)
  refine b5 (Sd z N O T F V I ?_)
  refine b5 (Y1 z ?_)
  refine b5 (dk (k8 ?_ (by size_fits)))
  have g:=jA m (uQ c cJ a0 aJ j)
  exact h _ _ j (iq _) (eX _ rfl) ((Q _ _ D).mono λcJ o e _=>fq _ e) (r.grow g) (.grow g)
 |none=>
  refine b5 (wpAny_functionCodeX H (C.code s w) (C.tab s) D λd i tk A km kn _ kz kC kq=>?_)
  have K:=z.extBut A E.gt
  refine b5 (Sd K N O (A _ _ kB T) F V I ?_)
  refine b5 (Y1 K ?_)
  refine b5 (dk (k8 ?_ (by size_fits)))
  obtain ⟨P',kJ,-,⟨S,vc,U,ky,M,-⟩,-⟩:=kq
  refine ye kz λkK kG vs t B y kF Y=>?_
  (injection B with B;subst B)
  rw [U] at y;(injection y with y;subst y)
  have fz:gc S:=iD (.inr (.inr ky)) (λes ep=>(by rw [M];exact (by (repeat intro _);contradiction))) (λv=>(by rw [M];exact (by (repeat intro _);contradiction)))
  have k:∀n o,n≠c.tab->m.heap.get? n=some o->(i.push (uQ c cJ a0 aJ (.ref d))).get? n=some o:=λn o hb e=>fq _ (A n o hb e)
  have G:∀p o,m.heap.get? p=some o->gc o->(i.push (uQ c cJ a0 aJ (.ref d))).get? p=some o:=λp o e f=>k p o (λq=>by rw [q,s] at e;(injection e with e;subst e);exact LK _ f) e
  have Z:(i.push (uQ c cJ a0 aJ (.ref d))).get? c.tab=some (K9 (ps++#[K5 ae.line,K5 ae.col,.ref d])):=fq _ kC.2
  have h0:c.h₀.get? c.tab=none:=r.new _ (.inr (.inr rfl))
  have ne:∀{p o},b p=some o->p≠c.tab:=λe q=>by rw [q,r.vF] at e;contradiction
  have P:uD (i.push (uQ c cJ a0 aJ (.ref d))) (.ref d) c.He:=⟨d,S,vs,t,rfl,(fq _ U),fz,kF,Y⟩
  have kl:m.heap.get? i.objs.size=none:=get?_none_of_le (by exact a_ km (eB kn))
  refine h i.objs.size _ (.ref d) kl (eX _ rfl) P ⟨λp o e=>?_,λp o e=>?_,r.new,r.Cv,r.vF,(gp _ Z ?_ (λkH j u=>?_)),r.gens,r.os⟩ ⟨λp o e nf=>k p o (λq=>nf (.inr (.inr q))) e,λp f=>.inl f⟩
  .refine (r.objs p o e).mono G (λx=>k p x (ne e)) λW J fs q=>?_
   subst q
   exact λx=>k J x (r.Cv p W J fs e).2.1
  .exact k p o (λq=>by rw [q,h0] at e;contradiction) (r.old p o e)
  .rw [oG]
   exact TriplesOk_snoc _ _ _ _ w
  .rw [oG] at u
   rcases Hu _ w u with u |rfl
   .exact (Q _ _ u).mono G
   .exact P
theorem Ka (h:Hc aJ d6=true):∃x u,d6=[⟨x,none,u⟩]/\slots aJ.names=[x]/\ic aJ.names x=some .local:=by
 match d6,h with
 |[⟨x,c,u⟩],h=>
  simp only [Hc,eW,decide_eq_true_eq,BO] at h
  obtain ⟨⟨rfl,a⟩,b⟩:=h
  exact mU x u rfl a b
theorem zk (h:Ct cJ aJ=true):∃x u,cJ=⟨[],[⟨x,none,u⟩],none,[],[],none,[]⟩/\Du aJ=true/\(∀y,(y,fE)∉aJ.names)/\slots aJ.names=[x]/\ic aJ.names x=some .local:=by
 unfold Ct at h
 simp only [eW,qe,BO] at h
 obtain ⟨⟨⟨⟨⟨⟨⟨⟨a,e⟩,d⟩,c⟩,b⟩,f⟩,i⟩,k⟩,g⟩:=h
 obtain ⟨n,m,q,o,kd,p,r⟩:=cJ
 dsimp only at a e d c b f g
 subst a e d c b f
 refine v_ m (Ka g) λx u j l=>?_
 exact qX x u rfl i (wh k) j l
theorem MB {a:List (j9×g0)} (h:∀y,(y,fE)∉r):qD cp r a=a:=by
 induction r with
 |nil=>rfl
 |cons p e c=>
  obtain ⟨x,k⟩:=p
  have b:k≠.free:=λq=>h x (by rw [q];exact .head _)
  rw [qD,if_neg b]
  exact c λy d=>h y (.tail _ d)
theorem MC (t:gX c) (j:xv c) (F:FR c aa r e b m) (p:R c b m) (n:BR r=true) (g:Ct cJ aJ=true) (h:∀f a d,m.heap.get? f=none->a.heap.get? f=some (uQ c cJ a0 aJ d)->uD a.heap d c.He->R c b a->St c b m b a->aG (.ref f) a):
 WE c L (vW (.Lambda cJ a0 aJ ae) aa) aG m:=by
 refine gv (zk g) λx u q s i w v=>?_;clear g s w v;subst q
 refine iP (F.code n) λo k=>?_
 have z:GX aJ aa=pure []:=by
  rw [vQ λy l=>absurd l (i y),MB i]
 refine kla_eval rfl ?_
 rw [k,<-j.He,makeFunction_eq]
 simp only [List.zip_nil_right,List.filterMap_nil,Od,if_true,pure_bind]
 exact MA t j p F.ok.globals o z h
theorem MD (HB:gX c) (W:Ct cJ aJ=true) (hb:SE c a aJ.names a0 g) (ho:m.heap.get? y=some (uQ c cJ a0 aJ J)) (kF:uD m.heap J c.He) (r:R c b m) (q:RV c m.heap aV i) (ku:L.depth<recursionLimit) (hr:∀G,mW a (L.deeper G)) (h:VE PG (eF PG a) g [some i] b n):WE c L (nF (.ref y) [aV] []) (k_ c b m n) m:=by
 refine gv (zk W) λp u kH kJ kz O kq=>?_;clear W;subst kH
 refine iP (DJ kJ) λkM Z=>?_
 refine qn (q9 kM) λk1 k2 k3 H k5=>?_
 obtain ⟨j,oc,ky,t,rfl,kB,-,kK,D⟩:=kF
 have kD:m.heap.CodeRec (.ref j) c.He:=vf j oc ky t rfl kB kK D
 refine QU ?_
 refine kla_callFunE ku ho rfl k3 k2 rfl kD ?_
 refine IT (d6:=[⟨p,none,u⟩]) (az:=[]) (a:=[]) rfl (by simp) (λD=>dk (D none rfl)) (by simp) (by simp) (by simp) ?_
 refine er (AG (c:=c) (L:=L.in1) (m:=m) (Q:=λG C=>C.heap.NoLimit/\sv (hX c.prog c.w) L (.expr a0 G) (λr X=>match r with | .ok (.ret aV)=>k_ c b m n aV X | .ok _=>False | .error e=>VQ e X) C) H ?_) (λ_ _ q=>q) λ_ _ e=>e.elim
 intro F I kI M
 have Y:FR c (vV aJ F iI I (c.He++".<locals>.") (some y) (.ref j) none j3) aJ.names (gn (slots aJ.names).length none) b kI:=by
  refine DK r H M _ rfl rfl k1 rfl rfl (λi k f=>.inl ?_) k5 (λi f=>absurd f (kz i)) (λi j f=>by contradiction) (λi p j f=>by contradiction) (λkN i aV hi E=>?_) (by simp) λkx=>by rw [Z] at kx;contradiction
  .show ph i aJ.names=some k
   rw [<-sD];exact f
  .rw [tO] at E
   split at E<;>first |contradiction |(injection E;contradiction)
 have kn:=r.grow M.grow
 have kC:[p].map (ot aJ.names)=[0].map some:=by
  simp only [eI,pH,iA,and_true]
  unfold ot
  rw [kq]
  show r9 _ p=_;rw [O,Cp];exact if_pos rfl
 refine zi (k:=[p]) (l:=[0]) (e:=[aV]) (a:=[i]) kC Y kn (.cons (q.grow M.grow) .nil) rfl λC U P S=>⟨zj HB P,?_⟩
 have T:∀d o,m.heap.get? d=some o->¬Own aJ.names (vV aJ F iI I (c.He++".<locals>.") (some y) (.ref j) none j3) d:=λd o e w=>by
  rcases w with w |⟨i,f,N⟩
  .have w:d=F:=w
   rw [w,M.fresh] at e;contradiction
  .have N:I.lookup i=some d:=N
   refine gi (M.own i ((jW H).mp f)) λc' v h2 _=>?_
   rw [N] at v;(injection v with v;subst v)
   rw [h2] at e;contradiction
 refine kla_codeExpr ?_
 have hm:pJ (gn (slots aJ.names).length none) [0] [i]=[some i]:=by rw [O];rfl
 rw [hm] at U
 refine er (hb (L.deeper _) _ _ b C n (hr _) U P h) (λw kO ζ=>?_) λ_ _ e=>e.elim
 obtain ⟨z,kl,qz,kG,V,hz⟩:=ζ
 refine ⟨z,kl,qz,kG,⟨λd o e x=>V.keep d o (S.keep d o (M.grow.keep d o e) x (T d o e)) x,λd km=>?_⟩,hz⟩
 rcases V.foot d km with K |K
 .exact .inl K
 .induction e:m.heap.get? d with
  |none=>exact .inr rfl
  |some o=>
   refine .inl (gj λx=>?_)
   rw [S.keep d o (M.grow.keep d o e) x (T d o e)] at K
   contradiction
structure wk (B:Base) (st:AS) (a:g0) (s s':eM):Prop where
 r:R B st s'
 keep:∀b o,s.heap.get? b=some o->b≠a->¬ik B st b->s'.heap.get? b=some o
theorem wk.frozen (x:wk c b y m ab) (r:R c b m) (d:∀o,m.heap.get? y=some o->¬gc o):∀p o,m.heap.get? p=some o->gc o->ab.heap.get? p=some o:=λp o e f=>
 x.keep p o e (λq=>d o (q▸e) f) λq=>by
  refine eS (r.oH q) λg a n=>?_
  rw [e] at a;obtain rfl:=d5 a;exact n f
theorem wk.step (x:wk c b y m ab) (g:St c b ab b aU) (r:R c b aU):wk c b y m aU:=⟨r,λa o e f d=>g.keep a o (x.keep a o e f d) d⟩
theorem wk.but (x:wk c b y m ab) (d:vl aW ab aU) (k:¬ik c b aW) (j:c.h₀.get? aW=none) (h:∀o,ab.heap.get? aW=some o->¬gc o) (a:aW=y\/m.heap.get? aW=none):wk c b y m aU:=
 ⟨x.r.but d k j h,λg o e f i=>d.keep g o (λq=>by
  rcases a with a |a
  .exact f (q.trans a)
  .rw [q,a] at e;contradiction) (x.keep g o e f i)⟩
theorem ME (q:h_ c H aj l) (p:RV c H J i):h_ c H (aj++[J]) (l++[i]):=q.append (.cons p .nil)
theorem Fz {k:AV->AV} {P:UC->eM->Prop} (r:R c b m) (C:m.heap.get? y=some (gw "list" aj.toArray a)) (kl:¬ik c b y) (km:c.h₀.get? y=none) (t:aj.length<6) (U:L.units+60<vC) (q:h_ c m.heap aj l) (hs:q0 (l.map k)) (hc:(l.map k).Pairwise gY) (kF:∀(i:Nat) v x d,aj[i]? =some v->l[i]? =some x->wk c b y m d->RV c d.heap v x->WE c L (nF J [v] []) (k_ c b d λkV n=>kV=k x/\n=b) d) (h:∀(p:Array Nat) d kY,Fq aj.length p->yr (rk (l.map k)) p aj.length->wk c b y m d->d.heap.get? y=some (listOf (jl (p.toList.map λi=>aj.getD i jr)) kY)->P (.done (.ret .none)) d):
 gf (hX c.prog c.w) L (ksk_tree y J false) P aG m:=by
 have hz:=nG
 have z:=q.length
 have kq:∀o,m.heap.get? y=some o->¬gc o:=λo e=>by rw [C] at e;(injection e with e;subst e);exact qH _ _
 obtain ⟨B,kx⟩:∃B,(m.heap.update y (fL λ_=>(#[]:Array eJ))).get? y=some (gw "list" #[] B):=oq _ (rX C λ_=>#[])
 have kM:=gM m.heap y (fL λ_=>(#[]:Array eJ))
 unfold ksk_tree
 refine b5 (Lc C rfl ?_)
 refine b5 (rx C rfl ?_ (by rw [j6];exact Ou t) (fA _))
 refine b5 (EA kx rfl ?_)
 refine b5 (Vc ?_ (by show aj.length<=_;exact Ou t))
 refine b5 (zM ?_ (fA _))
 refine f7 ?_
 show gf _ L _ P aG {m with heap:=((m.heap.update y (fL λ_=>(#[]:Array eJ))).push (gw "tuple" aj.toArray 0)).push (gw "list" #[] 0)}
 have kQ:(((m.heap.update y (fL λ_=>(#[]:Array eJ))).push (gw "tuple" aj.toArray 0)).push (gw "list" #[] 0)).get? y=some (gw "list" #[] B):=fq _ (fq _ kx)
 have I:vl y m {m with heap:=((m.heap.update y (fL λ_=>(#[]:Array eJ))).push (gw "tuple" aj.toArray 0)).push (gw "list" #[] 0)}:=
  ⟨λkU o I e=>fq _ (fq _ ((kM.2 kU I).trans e)),rfl,rfl⟩
 have kI:(((m.heap.update y (fL λ_=>(#[]:Array eJ))).push (gw "tuple" aj.toArray 0)).push (gw "list" #[] 0)).get? ((m.heap.update y (fL λ_=>(#[]:Array eJ))).push (gw "tuple" aj.toArray 0)).objs.size=some (gw "list" #[] 0):=eX _ rfl
 have N:m.heap.get? ((m.heap.update y (fL λ_=>(#[]:Array eJ))).push (gw "tuple" aj.toArray 0)).objs.size=none:=by
  refine get?_none_of_le ?_
  rw [rH,Heap.size_update];exact eh m.heap.objs.size 1
 generalize kT:((m.heap.update y (fL λ_=>(#[]:Array eJ))).push (gw "tuple" aj.toArray 0)).objs.size=kS at kI N
 generalize kH:({m with heap:=((m.heap.update y (fL λ_=>(#[]:Array eJ))).push (gw "tuple" aj.toArray 0)).push (gw "list" #[] 0)}:eM)=Z at I⊢
 have kB:Z.heap.get? y=some (gw "list" #[] B):=by rw [<-kH];exact kQ
 have ku:Z.heap.get? kS=some (gw "list" #[] 0):=by rw [<-kH];exact kI
 have S:wk c b y m Z:=(⟨r,λkU o e _ _=>e⟩:wk c b y m m).but I kl km kq (.inl rfl)
 refine iP (r.kk N) λY kG=>?_
 have kJ:kS≠y:=λe=>by rw [e,C] at N;contradiction
 clear kH kQ kI kM kx
 unfold ksk_rest
 refine b5 (nI ?_)
 rw [List.forIn_toArray]
 refine b5 (ksk_fold (λi d=>wk c b y m d/\d.heap.get? y=some (gw "list" #[] B)/\∃f e,d.heap.get? kS=some (gw "list" f e)/\h_ c d.heap f.toList ((l.map k).take i)) aj 0 Z
  (rL S kB (#[]) 0 ku .nil) ?step ?done)
 case step=>
  clear C km U hs hc h hz kT I kB ku S;intro j v d W kO;refine oO kO λH O f e F A=>?_
  simp only [i4] at A⊢
  have V:j<aj.length:=(ey.mp W).1
  clear kO;obtain ⟨x,hx⟩:∃x,l[j]? =some x:=oq _ (dj (by exact fD V z))
  have qv:RV c d.heap v x:=by
   refine eS (q.get hx) λv' X p=>?_
   rw [W] at X;(injection X with X;subst X)
   exact p.mono (H.frozen r kq)
  have s:=A.length
  rw [eD,fT] at s
  refine b5 (wpAny_attempt (er (kF j v x d W hx H qv) (λw K ζ=>?_) λ_ _ hF=>hF.elim))
  clear q kF z kq W qv;obtain ⟨kV,n,qy,lA,kn,hy,lu⟩:=ζ
  subst hy lu
  have H':=H.step kn lA
  have na:=kn.keep _ _ O kl
  have nk:=kn.keep _ _ F Y
  have lj:=A.step H.r kn
  dsimp only
  have T:=gM K.heap kS (fL (·.push w))
  obtain ⟨c2,lr⟩:∃c2,(K.heap.update kS (fL (·.push w))).get? kS=some (gw "list" (f.push w) c2):=oq _ (rX nk (·.push w))
  have bk:vl kS K {K with heap:=K.heap.update kS (fL (·.push w))}:=yq T
  have M:∀o,K.heap.get? kS=some o->¬gc o:=λo e=>by rw [nk] at e;(injection e with e;subst e);exact qH _ _
  refine b5 (rx nk rfl ?_ (by exact T3 t V s) (a_ (gy (Array.size_push ..)) (by exact fi (T3 t V s))))
  refine dk ⟨rfl,(H'.but bk Y kG M (.inr N)),((T.2 y kJ.symm).trans na),(f.push w),c2,lr,?_⟩
  rw [sq]
  have ek:(l.map k).take (j+1)=(l.map k).take j++[k x]:=by rw [Ld,ed,hx];rfl
  rw [ek]
  exact ME (lj.but bk M) (qy.but bk M)
 case done=>
  intro g kW;refine oO kW λH O f e F A=>?_
  have e3:(l.map k).take (0+aj.length)=l.map k:=ni (by rw [bb];exact gy (z.symm.trans (i4 _).symm))
  rw [e3] at A
  have s:=A.length
  rw [eD,bb] at s
  refine b5 (Lc F rfl ?_)
  have M:∀o,g.heap.get? kS=some o->¬gc o:=λo e=>by rw [F] at e;(injection e with e;subst e);exact qH _ _
  have kN:Mo c L y f.toList (rk (l.map k)) g:=Ft U A hs hc λo e=>by rw [O] at e;(injection e with e;subst e);exact qH _ _
  have kP:∀(p:Array Nat) (n:SortSt),Fq aj.length p->yr (rk (l.map k)) p aj.length->(arrOf n).map (·.2)=jl (p.toList.map λi=>aj.getD i jr)->Vp n=none->gf (hX c.prog c.w) L (ksk_tail y false B (.ref kS) n) P aG g:=by
   intro p n E kD kK lg
   unfold ksk_tail
   have ly:(jl (p.toList.map λi=>aj.getD i jr)).size=aj.length:=by rw [j6,bb,eD,E.size]
   have T:=gM g.heap kS (fL λ_=>(#[]:Array eJ))
   have Sq:(g.heap.update kS (fL λ_=>(#[]:Array eJ))).get? y=some (gw "list" #[] B):=(T.2 y kJ.symm).trans O
   have bk:vl kS g {g with heap:=g.heap.update kS (fL λ_=>(#[]:Array eJ))}:=yq T
   have H1:=H.but bk Y kG M (.inr N)
   have lh:=gM (g.heap.update kS (fL λ_=>(#[]:Array eJ))) y (fL λ_=>jl (p.toList.map λi=>aj.getD i jr))
   have b2:vl y {g with heap:=g.heap.update kS (fL λ_=>(#[]:Array eJ))} {g with heap:=(g.heap.update kS (fL λ_=>(#[]:Array eJ))).update y (fL λ_=>jl (p.toList.map λi=>aj.getD i jr))}:=yq lh
   have S:=H1.but b2 kl km (λo e=>by rw [Sq] at e;(injection e with e;subst e);exact qH _ _) (.inl rfl)
   rw [kK]
   dsimp only
   refine b5 (rx F rfl ?_ (by exact n1 (s.trans z.symm) (Ou t)) (fA _))
   refine b5 (Y3 ?_)
   refine b5 (EA Sq rfl ?_)
   refine b5 (rx Sq rfl ?_ (fA _) (by simp only [fY,if_false];exact n1 ly (f5 (Ou t))))
   rw [lg]
   simp only [bne_self_eq_false,fY,if_false]
   exact dk (h p _ _ E kD S (rX Sq λ_=>jl (p.toList.map λi=>aj.getD i jr)))
  unfold ksk_end
  simp only [fY,if_false]
  have kC:f=f.toList.toArray:=by simp
  clear kW;by_cases u:aj.toArray.size<2
  .rw [if_pos u,if_pos u]
   refine b5 (dk ?_)
   rw [StateT.run_pure]
   refine b5 (dk ?_)
   have u:aj.length<2:=by simpa using u
   refine kP (eR aj.length).toArray _ (by unfold Fq;simp) (λi j lx V=>by rw [show i=j by exact Wr u lx V];exact eK _) ?_ rfl
   have D:f.toList.length=aj.length:=by rw [eD];exact s.trans z.symm
   refine OB D ?_
   have e:=kas_range (f.toList.toArray.zip aj.toArray)
   rw [show (f.toList.toArray.zip aj.toArray).size=aj.length by simp [s];exact t8 (gy z)] at e
   show f.zip aj.toArray=_
   rw [e,<-kC]
  .rw [if_neg u,if_neg u]
   have kz:2<=aj.length:=by simpa using u
   rw [kC]
   have D:f.toList.length=aj.length:=by rw [eD];exact s.trans z.symm
   refine b5 (er (kN (by exact Vv kz D) g ⟨λ_ _ _ e=>e,rfl,rfl⟩) (λκ s4 ζ=>?_) λ_ _ e=>e.elim)
   clear r C kl km q hs hc kF h hz z kq kT N I kB ku S Y kG kJ H O F A e3 s M kN kC u;refine iP ζ λkZ ky=>?_
   clear ζ;subst kZ
   rw [D] at ky
   refine b5 (er (kat_run (ks:=f.toList) (vs:=aj) (Q:=λn d=>∃p,Fq aj.length p/\yr (rk (l.map k)) p aj.length/\arrOf n=p.map (kas_item (f.toList.toArray.zip aj.toArray))/\Vp n=none/\d=s4) (G:=λp d=>Fq aj.length p/\yr (rk (l.map k)) p aj.length/\d=s4) D kz (by exact gH t (by decide))
    (λp n d _ a2 a3 a4=>⟨p,a4.1,a4.2.1,a2,a3,a4.2.2⟩) (IQ ky (by exact t) λp E U=>(iD E U rfl))) ?_ λ_ _ e=>e)
   clear t U kz ky;intro lz d kX;obtain ⟨⟨⟩,n⟩:=lz;refine zT kX λp E kD kK hf lq=>?_
   clear kX;subst lq
   exact kP p n E kD (OB D kK) hf
theorem R.Ua (r:R c b m) (j:¬ik c b y) (v:c.h₀.get? y=none) (s:RO c m.heap y av) (o:∀f u g,av≠.inst f u g):
 b.free y/\R c (b.set y av) m/\∀d,ik c (b.set y av) d->ik c b d\/d=y:=by
 have l:b.free y:=⟨by
  induction e:b y with
  |none=>rfl
  |some A=>exact absurd (.inl (by rw [e];simp)) j,λd f g e=>j (.inr (.inl (qC d f g e)))⟩
 have p:y≠c.tab:=λe=>j (.inr (.inr e))
 have t:∀d,ik c (b.set y av) d->ik c b d\/d=y:=by
  clear r j v s l p;rintro d (h |⟨a,f,g,h⟩ |h)
  .by_cases k:d=y
   .exact .inr k
   .rw [gu k] at h;exact .inl (.inl h)
  .by_cases i:a=y
   .subst i;rw [gZ] at h;(injection h with h;subst h);exact absurd rfl (o _ _ _)
   .rw [gu i] at h;exact .inl (.inr (.inl (qC a f g h)))
  .exact .inl (.inr (.inr h))
 refine iD l ⟨λa A e=>?_,r.old,λd k=>?_,λa f u g e=>?_,?_,r.tab,r.gens,r.os⟩ t
 .clear j v o l p t;by_cases i:a=y
  .clear r;subst i;rw [gZ] at e;(injection e with e;subst e);exact s
  .rw [gu i] at e;exact r.objs a A e
 .clear j s o l p;rcases t d k with h |rfl
  .exact r.new d h
  .exact v
 .have i:a≠y:=λq=>by subst q;rw [gZ] at e;(injection e with e;subst e);exact absurd rfl (o _ _ _)
  rw [gu i] at e
  refine mT (r.Cv a f u g e) λw z D=>?_
  have x:u≠y:=λq=>l.2 a f g (q▸e)
  refine iD (by rw [gu x];exact w) z (λd C B n=>?_)
  clear r j v s l p t e i w z x;by_cases k:d=y
  .subst k;rw [gZ] at n;(injection n with n;subst n);exact absurd rfl (o _ _ _)
  .rw [gu k] at n;exact D d C B n
 .rw [gu (nD p)];exact r.vF
theorem Kb (r:R c b m) (x:wk c b y m ab) (i:m.heap.get? y=none) (l:RO c ab.heap y av) (o:∀d t u,av≠.inst d t u) (h:∀d,b.free d->n (.ref d) (b.set d av)):k_ c b m n (.ref y) ab:=by
 refine iP (r.kk i) λs p=>?_
 refine mT (x.r.Ua s p l o) λf a k=>?_
 refine ⟨.ref y,_,.ref y,a,⟨λj av e g=>x.keep j av e (λq=>by rw [q,i] at e;contradiction) g,λj g=>?_⟩,h y f⟩
 clear r x l o s p f a;rcases k j g with h |rfl
 .exact .inl h
 .exact .inr i
theorem Pt:JH=(i3 "key"):=by unfold JH;decide+kernel
theorem DP:ic GG vh=some (.bi 1):=by kernel_rfl
variable {dT:List h}
theorem Hv (c:∀x∈dq,∀y∈dT,dA x=dA y->x=y) (d:dq.map dA=dT.map dA):dq=dT:=by
 induction dq generalizing dT with
 |nil=>exact (jx.mp d.symm).symm
 |cons x dq j=>
  induction dT using el with
  |nil=>contradiction
  |cons y dT=>
   refine iP (ft d) λe f=>?_
   rw [c x (.head _) y (.head _) e,j (λa i b g=>c a (.tail _ i) b (.tail _ g)) f]
theorem Ub {c:AV->AV} (g:l.length=a) (p:Fq a cq) (C:yr (rk (l.map c)) cq a) (D:q0 (l.map c)) (w:l.Pairwise λd b=>Lt (c d) (c b)\/Lt (c b) (c d)) (s:aN.Perm l) (E:aN.Pairwise λd b=>Lt (c d) (c b)):(cq.toList.map λi=>l.getD i .none)=aN:=by
 have t:=pU D
 have B:(l.map c).Pairwise gY:=gk.mpr (w.imp λh=>h.elim .inl λh=>.inr (.inr h))
 have m:∀i∈cq.toList,i<a:=λi f=>eV.mp (p.mem_iff.mp f)
 have k:(cq.toList.map λi=>l.getD i .none).Perm l:=CH (aj:=gn a jr) (by rw [p3];exact p) (by rw [p3];exact g)
 have e:(cq.toList.map λi=>l.getD i .none).map c=cq.toList.map λi=>(l.map c).getD i .none:=by
  rw [ew]
  refine fo λi f=>?_
  have:=m i f
  show c (l.getD i .none)=_
  rw [j1 (by exact fD (m i f) (id (rK g))),j1 (by rw [bb];exact fD (m i f) (id (rK g))),zN]
 have G:((cq.toList.map λi=>l.getD i .none).map c).Pairwise λd b=>Lt d b\/d=b:=by
  rw [e]
  exact zh (a:=a) (by rw [bb];exact g) p C t B
 have H:(cq.toList.map λi=>l.getD i .none).map c=aN.map c:=by
  refine sf (r:=λd b=>(Lt d b\/d=b)/\oR 4 d) (λd b A J=>xu A.2 A.1 J.1) ((k.trans s.symm).map c) ?_ ?_
  .exact G.imp_of_mem λz _ h=>⟨h,t _ ((k.map c).mem_iff.mp z)⟩
  .refine gk.mpr (E.imp_of_mem λz _ h=>⟨.inl h,t _ ?_⟩)
   exact ck.mpr ⟨_,s.mem_iff.mp z,rfl⟩
 have I:∀x∈l,∀y∈l,c x=c y->x=y:=by
  intro x u y o v
  obtain ⟨i,f,rfl⟩:=qT u
  obtain ⟨j,F,rfl⟩:=qT o
  have h:=oE.mp w
  rcases zz i j with q |q |q
  .have:=h i j f F q
   rw [v] at this
   exact (this.elim Sp Sp).elim
  .clear g p C D w s E t B m k e G H u o v h;subst q;rfl
  .have:=h j i F f q
   rw [v] at this
   exact (this.elim Sp Sp).elim
 exact Hv (λx u y o=>I x (k.mem_iff.mp u) y (s.mem_iff.mp o)) H
theorem MF (J:gX c) (HL:xv c) (X:2<=a) (H1:qp c 1):zX c a:=by
 intro ns f e lL kT b sc lp kp U cb B kH kD kV hc kY g t kQ st s lu j F r h
 refine iP (kV c 1 J H1) λlF kZ=>?_
 unfold yg at B
 rw [eW,decide_eq_true_eq,decide_eq_true_eq] at B
 obtain ⟨B,kI⟩:=B
 obtain ⟨fp,rfl⟩:=Cq B
 have kJ:uB GG ns vh=some (.cst (.bi 1)):=AL (by unfold vh tf;decide+kernel) kI DP
 have hf:=xj (a:=a) J (ae:=fp) kJ
 show WE c g (do let f <-vW (.Name vh fp) t;BL U f [] (s_ U (nr [e] t)) (Vj U (OA [⟨some JH,.Lambda kT b sc lp,kp⟩] t))) _ s
 refine b5 (er (hf g t kQ st s (λv ky=>v= .bi 1/\ky=st) j F r ⟨rfl,rfl⟩) ?_ λ_ _ e=>e)
 intro fv lJ lG;obtain ⟨x,lg,S,kn,kB,rfl,rfl⟩:=lG
 have lx:fv= .builtin "sorted":=by
  generalize l:AV.bi 1=z at S
  induction S using RV.casesOn with
  |bi a=>(injection l with l;subst l);rfl
  |_=>contradiction
 subst lx
 have km:=F.step r kB
 have L:=vk hc t []
 refine Y8 (P:=λ_=>True) (by rw [L];rfl) (λh _=>(ei .machine (.inr (.inl rfl)) (nB rfl))) ?_
 refine evalArgs_kw2 (by rfl) ?_ (he:=L)
 refine W5 (f6 (kY g t kQ lg lJ _ j km kn h) (λlB lM v Z qv O Y hq=>W4 ?_)) L
 have kM:=km.step kn Y
 refine kwAll_cons ?_
 refine MC J HL kM O kD kH λfa I cv kF V lq G kx=>?_
 refine kwAll_nil ⟨trivial,?_⟩
 refine iP (O.kk kF) λlH lj=>?_
 show WE c g (nF (.builtin "sorted") [lB] [(JH,.ref fa)]) _ I
 rw [Pt]
 have hu:=j.Az
 have kO:=qv.step O kx
 refine er (Q:=k_ c Z I lu) ?_ (λ_ _ p=>((p.trans kx).trans Y).trans kB) λ_ _ e=>e
 refine call_function_entry_kw Y' W6 W7 (ksk_s1 _ _) ?_
 unfold vZ.«sorted»
 refine b5 (m:=Zf "sorted" 1 1 _) (dk ?_)
 refine b5 (vR (L:=g.in1) J j.handled G kO hq λD xs d E N K hl=>?_)
 refine Lm K λM T kG kq kz ys lD=>mT lD λkl kP hQ=>?_
 have l:=N.length
 have lh:=nG
 refine b5 (zM ?_ (by exact n1 l (Ou M)))
 have q:=jA d (listOf D.toArray 0)
 show gf _ _ _ _ _ {d with heap:=d.heap.push (listOf D.toArray 0)}
 have C:({d with heap:=d.heap.push (listOf D.toArray 0)}:eM).heap.get? d.heap.objs.size=some (gw "list" D.toArray 0):=eX _ rfl
 have R:d.heap.get? d.heap.objs.size=none:=iq _
 generalize lK:({d with heap:=d.heap.push (listOf D.toArray 0)}:eM)=lE at q C
 generalize hp:d.heap.objs.size=p at C R
 have ku:I.heap.get? p=none:=by
  induction e:I.heap.get? p using d_ with
  |none=>rfl
  |some u=>have:=E.keep _ _ e;rw [R] at this;contradiction
 have W:=(G.grow E).grow q
 refine iP ((G.grow E).kk R) λkK kX=>?_
 have kU:(xs.map T).Pairwise gY:=gk.mpr (kz.imp λh=>h.elim .inl λh=>.inr (.inr h))
 have ly:fa≠p:=λe=>by rw [e,ku] at V;contradiction
 have lA:=q.keep _ _ (E.keep _ _ V)
 have kN:∀u,lE.heap.get? p=some u->¬gc u:=λu e=>by rw [C] at e;obtain rfl:=d5 e;exact qH _ _
 refine b5 (f7 (wpAny_call_entry_kw Vn (ei _ C rfl) US ?_ (ksk_l1 _ _)))
 rw [ksk_t1]
 refine Fz (k:=T) W C kK kX (by exact Tn l M) (by show g.units+1+1+60<vC;exact ul 62 hu rfl) (N.grow q) kq kU (λi w x s' hw K H qw=>?_) λpm lz cc kC lI H lC=>ei _ rfl ?_
 .have kW:x∈xs:=fj K
  have hv:=kG x kW (λy ky=>y=T x/\ky=Z) ⟨rfl,rfl⟩
  clear HL H1 kD kV hc kY B kI kJ hf kn F h kB S km L qv O Y hq kM kF V G kx lj hu kO N hl M kG kq kz kl kP hQ l lh lK hp C R ku kK kX kU hw K kW;clear K;obtain ⟨n',rfl⟩:∃n',a=n'+1:=oq (a -1) (by exact Ol X)
  refine MD J kH lF (H.keep _ _ lA ly lH) ((lq.mono λkT u e _=>q.keep _ _ (E.keep _ _ e)).mono (H.frozen W kN)) H.r qw ?_ (λt=>⟨?_,?_,j.handled⟩) (kZ _ _ _ _ hv)
  .have:=j.depth;show g.depth<1000;exact r4 this
  .have:=j.depth;show g.depth+1+10*1<=900;exact (s5 (ak:=11) this X rfl:)
  .have:=j.units;show g.units+1+1+3+100*1<=9000;exact (s5 (ak:=105) this X rfl:)
 .refine dk (ei _ rfl ?_)
  have e:=Ub (a:=D.length) l.symm kC lI kq kz kl kP
  have lr:wk c Z p I lz:=⟨H.r,λb u e hb hn=>H.keep b u (q.keep _ _ (E.keep _ _ e)) hb hn⟩
  refine Kb G lr ku (av:=.list ys) (.list lC ?_ ?_) (by (repeat intro _);contradiction) hQ
  .rw [<-e]
   exact Fv ((N.grow q).mono (H.frozen W kN)) λi hi=>eV.mp (kC.mem_iff.mp hi)
  .rw [kl.length_eq];unfold fG;exact a_ (eB M) (by decide)
theorem RH (a:gX c) (d:AJ QE c) (f:xv c) (n:Nat):qp c n:=
 (Mx a (RF a) d (RG a) (λn e b _=>MF a f e b) n).1
noncomputable def Uc:List Addr:=[21,35,42,49,56,61,82,89,96,118,123,128,133,140,147,161,168,173,187,192,214,228,235,242,249,255,262,269,276,283,290,297,304,309,323,328,342,347,354,361,368,373,380,394,401,408,415,429,436,443,450,457,464,471,485,492,499,506,513,525,532,546,553,565,570,577,592,599,606,613,618,632,639,644,649,656,661,666,671,676,683,688]
noncomputable def U9:List Addr:=[64,99,150,195,217,331,418,516,556,621]
noncomputable def LC:Addr:=442
noncomputable def EE:Addr:=438
noncomputable def yu (k:Nat):Addr:=Uc.getD k 0
noncomputable def Pu (c:Nat):Addr:=U9.getD c 0
theorem ps {o:Option (PLift z)} (h:o.isSome=true):z:=(o.get h).down
noncomputable def RI:(x:Option (Option eJ))->Option (PLift (x=some none))
 |some none=>some ⟨rfl⟩
 |_=>none
noncomputable def Ud (a:g0):(v:eJ)->Option (PLift (v= .ref a))
 | .ref b=>if e:G0 b a=true then some ⟨congrArg La (nL e)⟩ else none
 |_=>none
noncomputable def DQ:(x:Option (Option eJ))->Option {v // x=some (some v)}
 |some (some v)=>some ⟨v,rfl⟩
 |_=>none
noncomputable def zY (x:Option (Option eJ)):Bool:=(RI x).isSome
variable {de:Option (Option eJ)}
theorem wm (h:zY de=true):de=some none:=ps h
noncomputable def Ue (a:g0) (x:Option (Option eJ)):Option (PLift (x=some (some (.ref a)))):=
 (DQ x).bind λv=>(Ud a v.1).map λe=>⟨v.2.trans (congrArg (some∘some) e.down)⟩
noncomputable def Hw (a:g0) (x:Option (Option eJ)):Bool:=(Ue a x).isSome
theorem CJ (h:Hw y de=true):de=some (some (.ref y)):=ps h
noncomputable def YV (n:String):(v:eJ)->Option (PLift (v= .builtin n))
 | .builtin m=>if e:m=n then some ⟨congrArg C_ e⟩ else none
 |_=>none
noncomputable def V8 (n:String) (x:Option (Option eJ)):Option (PLift (x=some (some (.builtin n)))):=
 (DQ x).bind λv=>(YV n v.1).map λe=>⟨v.2.trans (congrArg (some∘some) e.down)⟩
noncomputable def MG (n:String) (x:Option (Option eJ)):Bool:=(V8 n x).isSome
theorem FA {n:String} (h:MG n de=true):de=some (some (.builtin n)):=ps h
noncomputable def Pw (x:Option (Option eJ)):Bool:=(DQ x).isSome
noncomputable def YW:(x:Option Bool)->Option (PLift (x=some false))
 |some false=>some ⟨rfl⟩
 |_=>none
noncomputable def Ug (x:Option Bool):Bool:=(YW x).isSome
theorem Px {x:Option Bool} (h:Ug x=true):x=some false:=ps h
noncomputable def DR (K:zv) (a:g0) (C:Qu):Bool:=
 MG "object.__getattribute__" (ta K (.ref a) "__getattribute__")&&zY (ta K (.ref a) "__getattr__")&&MG "object.__setattr__" (ta K (.ref a) "__setattr__")&&
 S1 K a&&S2 K a&&makesIn K a&&Hw (yu C.init) (ta K (.ref a) "__init__")&&isFn K (.ref (yu C.init))&&
 ((eR AT.length).all λx=>zY (WW K a (AT.getD x default))&&
  (match C.meths.lookup x with
   |none=>zY (ta K (.ref a) (AT.getD x default))
   |some f=>Hw (yu f) (ta K (.ref a) (AT.getD x default))&&isFn K (.ref (yu f))&&Pw (SY K (.ref (yu f)) "__get__")&&Ug (WV K (.ref (yu f)))))
theorem Kc (i:c.fa=yu) (h:DR c.K (c.ca a) bP=true):IC c a bP:=by
 unfold DR at h
 simp only [eW] at h
 refine iP h λb r=>?_;refine iP b λb u=>?_;refine iP b λb q=>?_;obtain ⟨⟨⟨⟨⟨k,l⟩,y⟩,p⟩,w⟩,m⟩:=b
 have g:∀(x:Nat) d,AT[x]? =some d->_:=λx d e=>by
  have t:=(ey.mp e).1
  have:=mN.mp r x (eV.mpr t)
  rw [show AT.getD x default=d by rw [ec,e];rfl,eW] at this
  exact this
 refine ⟨FA k,wm l,FA y,p,w,m,by rw [i];exact CJ q,by rw [i];exact u,λx d e=>wm (g x d e).1,λx d e j=>?_,λx d f e j=>?_⟩
 .have:=(g x d e).2
  rw [j] at this
  exact wm this
 .have:=(g x d e).2
  rw [j] at this
  simp only [eW] at this
  refine iP this λb o=>?_;refine iP b λb v=>?_;refine iP b λn s=>?_
  rw [i]
  refine uz (CJ n) s ?_ (Px o)
  exact oq _ ((DQ _).get v).2
noncomputable def YX:(o:Option Zi)->Option {fd // ∃p,o=some p/\p.data= .func fd}
 |some ⟨a,b,.func fd,c⟩=>some ⟨fd,_,rfl,rfl⟩
 |_=>none
noncomputable def Py (K:zv) (a:g0):Option FuncData:=(YX (K.lookup a)).map (·.1)
theorem Pz (h:Py aY y=some d4):∃o,aY.lookup y=some o/\o.data= .func d4:=
 eS (fX.mp h) λx _ e=>e▸x.2
noncomputable def Hx (K:zv) (fd:GY):Bool:=match fd.code with
 | .ref c=>(match K.lookup c with
  |some ⟨_,_,.fields vs,_⟩=>(match (vs[1]? :Option eJ) with
   |some (.str q _)=>decide (q=fd.qualname)
   |_=>false)
  |_=>false)
 |_=>false
theorem Kd (X:aY.In H) (e:Hx aY d4=true):H.CodeRec d4.code d4.qualname:=by
 unfold Hx at e
 generalize b:d4.code=z at e⊢
 clear b
 induction z using qc with
 |ref c=>
  have e:(match aY.lookup c with
   |some ⟨_,_,.fields a,_⟩=>(match (a[1]? :Option eJ) with
    |some (.str q _)=>decide (q=d4.qualname)
    |_=>false)
   |_=>false)=true:=e
  generalize g:aY.lookup c=o at e
  induction o using d_ with
  |none=>contradiction
  |some o=>
   obtain ⟨j,i,d,h⟩:=o
   induction d using Data.casesOn with
   |fields a=>
    have e:(match (a[1]? :Option eJ) with
     |some (.str q _)=>decide (q=d4.qualname)
     |_=>false)=true:=e
    generalize f:(a[1]? :Option eJ)=v at e
    induction v using d_ with
    |none=>contradiction
    |some v=>induction v using qc with
     |str q t=>exact vf c _ a t rfl (X _ _ g) rfl (of_decide_eq_true e▸f)
     |_=>contradiction
   |_=>contradiction
 |_=>contradiction
noncomputable def Uh:(v:eJ)->(x:AV)->Option (PLift (∀B h,RV B h v x))
 | .none,.none=>some ⟨λ_ _=>.none⟩
 | .bool b,.bool c=>if e:b=c then some ⟨λ_ _=>e▸.bool _⟩ else none
 | .int i _,.int j=>if e:i=j then some ⟨λ_ _=>e▸.int _ _⟩ else none
 | .str s _,.str l=>if e:s.cps.toList=l then some ⟨λ_ _=>e▸.str _ _⟩ else none
 |_,_=>none
noncomputable def QG:(vs:List eJ)->(xs:List AV)->Option (PLift (∀B h,h_ B h vs xs))
 |[],[]=>some ⟨λ_ _=>.nil⟩
 |v::vs,x::xs=>(Uh v x).bind λp=>(QG vs xs).map λq=>⟨λB h=>.cons (p.down B h) (q.down B h)⟩
 |_,_=>none
noncomputable def MH (v:eJ) (x:AV):Bool:=(Uh v x).isSome
noncomputable def xw (vs:List eJ) (xs:List AV):Bool:=(QG vs xs).isSome
theorem Ke (e:MH J i=true):RV c H J i:=ps e c H
theorem AN (e:xw aj l=true):h_ c H aj l:=ps e c H
noncomputable def V9:(o:Option Zi)->Option {items // ∃n,o=some (gw "tuple" items n)}
 |some ⟨.type T,none,.seq items n,⟨[]⟩⟩=>if e:T="tuple" then some ⟨items,n,e▸rfl⟩ else none
 |_=>none
noncomputable def xx (K:zv) (a:g0):Option (Array eJ):=(V9 (K.lookup a)).map (·.1)
theorem FC (h:xx aY y=some bf):∃n,aY.lookup y=some (gw "tuple" bf n):=
 eS (fX.mp h) λx _ e=>e▸x.2
noncomputable def PA:eJ->AV
 | .bool b=>.bool b
 | .int i _=>.int i
 |_=>.none
noncomputable def FD (K:zv) (fd:GY):List AV:=match fd.defaults with
 | .ref t=>(match xx K t with
  |some items=>items.toList.map PA
  |none=>[])
 |_=>[]
noncomputable def MI (K:zv) (fd:GY):Bool:=match fd.defaults with
 | .none=>true
 | .ref t=>(match xx K t with
  |some items=>xw items.toList (items.toList.map PA)
  |none=>false)
 |_=>false
noncomputable def codeOf (K:zv) (a:g0):mV:=match Py K a with
 |some fd=>(match fd.body with
  | .stmts b=>((V7 (FD K fd) fd.scope b fd.params).map (·.1)).getD noFn
  |_=>noFn)
 |none=>noFn
noncomputable def QH:List Bool:=[false,true,true,false,false,true,true,false,false,true,true,false,false,true,false,true,true,true,true,false,true,false,true,true,true,true,true,true,true,true,true,true,true,true,true,true,true,true,false,true,true,true,true,true,true,true,true,true,true,true,true,true,true,true,true,true,true,true,true,true,true,true,true,true,true,true,true,true,false,false,false,true,true,true,true,true,true,true,true,true,true,true]
noncomputable def DS (K:zv) (bs:List Bool) (as:List g0):List mV:=
 (eR as.length).map λk=>bif bs.getD k false then codeOf K (as.getD k 0) else noFn
noncomputable def MJ (K:zv) (fd:GY):Bool:=Hx K fd&&MI K fd&&sW (FD K fd).length fd.params.args.length&&G0 fd.globals iI&&fd.closure.isEmpty&&G0 fd.builtins j3&&
 (!BR fd.scope.names||match fd.code with
  | .ref c=>G0 c LC&&decide (fd.qualname=⟨⟨[116,97,98,108,101,95,111,102]⟩⟩)
  |_=>false)
noncomputable def MK (K:zv) (bs:List Bool) (as:List g0):Bool:=
 (eR as.length).all λk=>!bs.getD k false||(Py K (as.getD k 0)).elim false (MJ K)
noncomputable def Ui (K:zv):Array DictEntry:=match K.lookup iI with
 |some ⟨_,_,.dict es _,_⟩=>es
 |_=>#[]
noncomputable def Uj:(v w:eJ)->Option (PLift (v=w))
 | .builtin a,.builtin b=>if e:a=b then some ⟨congrArg C_ e⟩ else none
 | .type a,.type b=>if e:a=b then some ⟨congrArg wO e⟩ else none
 |_,_=>none
noncomputable def MN (v w:eJ):Bool:=(Uj v w).isSome
theorem MO (h:MN J aV=true):J=aV:=ps h
noncomputable def Hy (a:g0) (v:eJ):Bool:=(Ud a v).isSome
theorem CK (h:Hy y J=true):J= .ref y:=ps h
noncomputable def Uk (K:zv) (val:eJ):AV->Bool
 | .fn k=>Hy (yu k) val
 | .cls c=>Hy (Pu c) val
 | .tup xs=>(match val with
  | .ref t=>(match xx K t with
   |some items=>sW items.size fG&&xw items.toList xs
   |none=>false)
  |_=>false)
 |v=>MH val v
noncomputable def IU (K:zv) (es:Array pX) (p:j9×AV):Bool:=match Zd es p.1 with
 |some val=>Uk K val p.2
 |none=>!decide (p.1=("__name__":j9))&&(match p.2,K8 p.1 with
  | .bi n,some w=>MN w (Aq n)
  |_,_=>false)
noncomputable def IV (K:zv) (as:List g0) (Cs:List Qu):Bool:=
 (eR as.length).all λc=>(Cs[c]?).elim false (DR K (as.getD c 0))
structure SA (K:zv):Prop where
 cls:IV K U9 WJ=true
 fns:MK K QH Uc=true
 codes:DS K QH Uc=WI
 ID:(Uc.all λa=>Vk K (.ref a))=true
 IE:(U9.all λa=>Vk K (.ref a))=true
 IF:(GG.all λp=>IU K (Ui K) p)=true
 glob:(K.lookup iI).isSome=true
 hd:codeHdIn K LC EE=true
 Ul:(K.lookup EE).isNone=true
 YY:(match Zd (Ui K) ⟨⟨[108,97,119]⟩⟩ with |some (.ref a)=>G0 a 688 |_=>false)=true
noncomputable def IW:Str:=⟨⟨[116,97,98,108,101,95,111,102,46,60,108,111,99,97,108,115,62,46]⟩⟩
noncomputable def baseOf (prog:GH) (w:Y6) (h:vY) (K:zv) (mg mb:j9->Option eJ) (os:WZ):Base:=
 {prog:=prog,w:=w,h₀:=K_ h [EE],K:=K,fa:=yu,ca:=Pu,mg:=mg,mb:=mb,os:=os,tab:=EE,lc:=LC,E3:=IW,He:=IW++("<lambda>":j9)}
theorem PB:PG.fns.length=82:=by kernel_rfl
theorem MP:PG.Dt.length=10:=by kernel_rfl
theorem QI {o:Option h} (a:o.elim false e9=true):∃x,o=some x/\e9 x=true:=by
 cases o with
 |none=>contradiction
 |some x=>exact ⟨x,rfl,a⟩
theorem PC {a:List g0} {b:List Qu} (h:IV aY a b=true) (c:Nat) (d:c<a.length):∃C,b[c]? =some C/\DR aY (a.getD c 0) C=true:=
 QI (mN.mp h c (eV.mpr d))
theorem RJ {g:List Bool} {d:List g0} {n:List mV} (h:MK aY g d=true) (p:DS aY g d=n) (k:Nat) (F:mV) (c:n[k]? =some F):
 F=noFn\/∃f,Py aY (d.getD k 0)=some f/\MJ aY f=true/\F=codeOf aY (d.getD k 0):=by
 rw [<-p] at c
 unfold DS at c
 rw [ed] at c
 refine eS (fX.mp c) λj i e=>?_
 have o:k<d.length:=fD (ey.mp i).1 fg
 obtain rfl:=d5 ((jy o).symm.trans i)
 have l:=mN.mp h k (eV.mpr o)
 clear h c i
 cases m:g.getD k false with
 |false=>rw [m] at e;exact .inl e.symm
 |true=>
  rw [m] at e l
  exact .inr (eS (QI l) λf a b=>⟨f,a,b,e.symm⟩)
theorem MQ:∀{l:List (j9×h)},ic l ao=some dn->(ao,dn)∈l:=by
 intro d
 induction d with
 |nil=>
  intro a
  contradiction
 |cons c r b=>
  intro a
  obtain ⟨y,w⟩:=c
  rw [ti] at a
  by_cases e:ao=y
  .rw [if_pos e] at a;clear b;subst e;obtain rfl:=d5 a;exact .head _
  .rw [if_neg e] at a;exact .tail _ (b a)
theorem PD:(⟨⟨[116,97,98,108,101,95,111,102]⟩⟩:j9)++(".<locals>.":j9)=IW:=by unfold IW;decide+kernel
theorem FE (e:H.get? y=some cj) (a:y≠EE):(K_ H [EE]).get? y=some cj:=hideAll_get _ e λq=>a (dt.mp q)
theorem U' (x:H.Ns y bu) (c:y≠EE):(K_ H [EE]).Ns y bu:=yd x λo a b e r=>⟨o,a,b,(FE e c),r⟩
theorem PF (X:aY.In H) (b:SA aY):aY.In (K_ H [EE]):=λa o e=>FE (X a o e) λq=>by
 have:=b.Ul
 rw [q] at e;rw [e] at this;contradiction
variable {cK:WRecords} {cL:(j9->Option eJ)->vY->Prop} {bS:j9->Option eJ}
theorem QJ (G:Vl bo bB cK cL bp m bu bS H) (X:aY.In H) (g:SA aY) (x:j9):Zd (Ui aY) x=bu x:=by
 refine nc G.T.g λo f i e a _ h=>?_
 refine kf (Option.isSome_iff_exists.mp g.glob) λl b=>?_
 have:=X _ _ b
 rw [e] at this;(injection this with this;subst this)
 have k:Ui aY=f:=by
  unfold Ui
  rw [b]
  clear G X g e h b;obtain ⟨c,d,j,n⟩:=o
  have a:j= .dict f i:=a
  subst a
  rfl
 rw [k];exact h x
variable {cM:WZ}
set_option tactic.hygienic true in
theorem PH {q:GH} (G:Vl q bB cK cL bp m bu bS H) (E:Y_ q=true) (X:aY.In H) (f:SA aY):gX (baseOf bo bp H aY bu bS cM) where
 WL:=PF X f
 g:=U' G.T.g (by decide)
 b:=U' G.T.b (by decide)
 nolimit:=let ⟨l,a,b⟩:=G.T.nolimit;(ei l (U' a (by decide)) b)
 nodigits:=let ⟨l,a,b⟩:=G.T.nodigits;(ei l (U' a (by decide)) b)
 TM:=let ⟨_,⟨o,_,_,e,_⟩,_⟩:=(G.T.seer E).mods;(oq o (FE e (by decide)))
 cls c d:=by
  obtain ⟨C,z,j⟩:=PC f.cls c d
  exact ei C z (Kc (c:=baseOf bo bp H aY bu bS cM) rfl j)
 ID k h:=by
  refine mN.mp f.ID (yu k) ?_
  unfold yu
  rw [ec,dj (show k<Uc.length from h)]
  exact fP _
 IE k h:=by
  refine mN.mp f.IE (Pu k) ?_
  unfold Pu
  rw [ec,dj (show k<U9.length from h)]
  exact fP _
 TN:=PB
 LL:=MP
 IF x v I:=by
  have d:=mN.mp f.IF _ (MQ I)
  unfold IU at d
  dsimp only at d
  rw [QJ G X f] at d
  have A:=PF X f
  generalize s:bu x=o at d
  induction o using d_ with
  |some r=>
   refine ei r (.inl s) ?_
   induction v using AV.casesOn with
   |fn k=>rw [CK d];exact .fn (B:=baseOf bo bp H aY bu bS cM) _
   |cls k=>rw [CK d];exact .cls (B:=baseOf bo bp H aY bu bS cM) _
   |tup y=>
    induction r using qc with
    |ref t=>
     have d:(match xx aY t with
      |some p=>sW p.size fG&&xw p.toList y
      |none=>false)=true:=d
     generalize w:xx aY t=o at d
     induction o using d_ with
     |none=>contradiction
     |some p=>
      refine kf (FC w) λn h=>?_
      have d:=(eW _ _).mp d
      exact .tup (A _ _ h) (jf d.1) (AN d.2)
    |_=>contradiction
   |_=>exact Ke d
  |none=>
   have d:=(eW _ _).mp d
   have j:¬x=("__name__":j9):=of_decide_eq_false ((fN _).mp d.1)
   have i:=d.2
   clear d
   induction v using AV.casesOn with
   |bi n=>
    have i:(match (AV.bi n),K8 x with
     | .bi n,some bp=>MN bp (Aq n)
     |_,_=>false)=true:=i
    generalize F:K8 x=o at i
    induction o using d_ with
    |none=>contradiction
    |some u=>
     have D:bS x=some u:=(G.T.builtins x j).trans F
     refine ei u (.inr ⟨s,D⟩) ?_
     rw [MO i]
     exact .bi (B:=baseOf bo bp H aY bu bS cM) n
   |_=>contradiction
set_option tactic.hygienic true in
theorem PI (X:aY.In H) (h:SA aY):AJ QE (baseOf bo bp H aY bu bS cM):=λk F p=>by
 rcases RJ h.fns h.codes k F p with K |⟨a,m,l,d⟩
 .exact .inl K
 .have j:=PF X h
  clear X h p;refine eS (Pz m) λo G E=>?_
  unfold codeOf at d
  rw [m] at d
  dsimp only at d
  unfold MJ at l
  simp only [eW,qe] at l
  refine iP l λv e=>?_;obtain ⟨⟨⟨⟨⟨J,g⟩,M⟩,B⟩,y⟩,D⟩:=v
  generalize I:a.body=L at d
  induction L using FuncBody.casesOn with
  |stmts b=>
   have d:F=((V7 (FD aY a) a.scope b a.params).map (·.1)).getD noFn:=d
   induction r:V7 (FD aY a) a.scope b a.params using d_ with
   |none=>rw [r] at d;exact .inl d
   |some s=>
    rw [r] at d
    have d:F=s.1:=d
    subst d
    refine Cf s.2 λu A C x=>?_
    refine .inr ⟨⟨a.params,b,a.scope⟩,A,C,x,⟨o,a,(j _ _ G),E,rfl,I,rfl,(nL B),y,(nL D),(Kd j J),?_,(λi=>?_)⟩,by rw [u];exact jf M⟩
    .rw [u]
     unfold MI at g
     unfold FD
     generalize a.defaults=z at g⊢
     induction z using qc with
     |none=>exact .inl ⟨rfl,rfl⟩
     |ref t=>
      have g:(match xx aY t with
       |some f=>xw f.toList (f.toList.map PA)
       |none=>false)=true:=g
      generalize q:xx aY t=o at g
      induction o using d_ with
      |none=>contradiction
      |some f=>
       refine kf (FC q) λn w=>?_
       refine .inr ⟨t,f,n,rfl,(j _ _ w),?_⟩
       show h_ _ _ f.toList (match xx aY t with
        |some f=>f.toList.map PA
        |none=>[])
       rw [q]
       exact AN g
     |_=>contradiction
    .have i:BR a.scope.names=true:=i
     rw [i] at e
     simp only [wU,Q7] at e
     have:=e
     generalize a.code=z at e⊢
     induction z using qc with
     |ref c=>
      have e:=(eW _ _).mp e
      rw [nL e.1,of_decide_eq_true e.2]
      exact ⟨rfl,PD⟩
     |_=>contradiction
  |_=>exact .inl d
theorem MR {q:GH} (G:Vl q bB cK cL bp m bu bS H) (l:H.get? EE=some (K9 #[])) (X:aY.In H) (c:SA aY):xv (baseOf bo bp H aY bu bS cM) where
 hd:=Y7 (PF X c) c.hd
 bt:=by
  refine iW G.T.bmain λb p j k a h r d=>?_
  have f:b≠EE:=λe=>by
   rw [e,l] at a;(injection a with a;subst a);contradiction
  have n:b≠mainGlobals:=λe=>by
   refine wZ G.T.g λo s t i g _=>?_
   rw [e,i] at a;(injection a with a;subst a);rw [g] at d;contradiction
  exact ⟨b,p,j,k,n,f,(FE a f),h,r,d⟩
 gt:=by show iI≠EE;decide
 He:=rfl
theorem PJ (i:H.get? EE=some (K9 #[])) (j:m.heap=H) (h:m.gens=#[]) (g:m.os=cM):R (baseOf bo bp H aY bu bS cM) (λ_=>none) m:=by
 subst j
 have f:∀b,ik (baseOf bo bp m.heap aY bu bS cM) (λ_=>none) b->b=EE:=λb d=>by
  rcases d with d |⟨a,c,k,e⟩ |d
  .exact absurd rfl d
  .contradiction
  .exact d
 refine ⟨λa o e=>(by contradiction),λb o e=>of_hideAll _ e,λb d=>?_,λa c l k e=>(by contradiction),rfl,(gp (#[]) i trivial (λp n e=>(by contradiction))),h,g⟩
 rw [f b d]
 exact hideAll_none _ (.head _)
noncomputable def Core:Prop:=∀ns:List Int,ns.length<=63->eF PG 50 (.fn 81) [.BQ ns] (λ_=>none) λv _=>v= .bool true
theorem Kf {a:List WData}:fV.row.toRowW.claim.post a (WData.bool true) a=true:=by
 show fV.row.toRowW.claim.post a (.bool true) a=true
 first
  |kernel_rfl
  |exact postW_of (by wrow_shape) (by wtm_val) (by w_fin)
theorem Um {q:j9->Option g0} {C:ExcName->Option eJ} {t:List WData} (T:Core) (G:Vl bo bB cK cL bp m bu bS ab.heap) (M:Y_ bo=true) (X:aY.In ab.heap) (i:ab.heap.get? EE=some (K9 #[])) (d:SA aY) (E:ab.gens=#[]) (s:bu ⟨⟨[108,97,119]⟩⟩=some (.ref y)) (u:ab.heap.IsList aW aj.toArray) (z:GI aj a8) (B:¬((63:Int)<(a8.length:Int))):
 gf (hX fV.row.prog bp) callerA (nF (.ref y) [.ref aW] []) (λv j=>GoodWG fV.row.toRowW.claim q C t ab (.ok (.ret v)) j)
  (λe j=>GoodWG fV.row.toRowW.claim q C t ab (.error e) j) ab:=by
 have L:y=yu 81:=by
  have p:=d.YY
  rw [QJ G X d,s] at p
  exact nL p
 clear s;subst L
 have O:=PH (bo:=fV.row.prog) (bp:=bp) (cM:=ab.os) G M X d
 have H:=PI (bo:=fV.row.prog) (bp:=bp) (bu:=bu) (bS:=bS) (cM:=ab.os) X d
 have U:=MR (bo:=fV.row.prog) (bp:=bp) (cM:=ab.os) G i X d
 have r:=PJ (bo:=fV.row.prog) (bp:=bp) (bu:=bu) (bS:=bS) (aY:=aY) i rfl E (rfl:ab.os=ab.os)
 have D:=z.length
 have Q:aW≠EE:=λe=>by
  refine gi u λo g W _=>?_
  rw [e,i] at g;(injection g with g;subst g);contradiction
 have I:(K_ ab.heap [EE]).IsList aW aj.toArray:=eS u λo g x=>(ei o (FE g Q) x)
 have R:RV (baseOf fV.row.prog bp ab.heap aY bu bS ab.os) ab.heap (.ref aW) (.BQ a8):=.BQ I (by simpa using z) (by rw [j6];unfold fG;exact n1 D (a_ (mS λh=>B (ib.mpr h)) (by decide:63<=100000)))
 refine er (RH O H U 50 (.fn 81) [.BQ a8] _ _ callerA (.ref (yu 81)) [.ref aW] ab (T a8 (by exact mS λh=>B (ib.mpr h))) ⟨by decide,by decide,rfl⟩ r (.fn 81) (.cons R .nil)) ?_ λ_ _ e=>e.elim
 intro v j P;obtain ⟨x,V,S,k,A,rfl⟩:=P
 obtain rfl:=xd S
 refine uz (.inl ⟨.bool true,.bool true,[],rfl,λ_=>rfl,.bool true,Kf,λ_=>⟨eH,(by intros;contradiction)⟩⟩) ⟨λb o e=>?_,λb o e=>?_⟩ k.os (.of_eq k.gens)
 all_goals
  by_cases l:b=EE
 .subst l
  refine eS k.tab λps n _=>?_
  rw [i] at e;(injection e with e;subst e)
  have F:=Y7 X d.hd
  exact .inr (.inl (rL (F.tab i).isCodeTable rfl (#[]) ps rfl (by rw [Array.empty_append];exact n)))
 .refine .inl (A.keep b o e λf=>?_)
  rcases f with f |⟨a,c,J,N⟩ |f
  .exact f rfl
  .contradiction
  .exact l f
 .subst l
  refine eS k.tab λps n _=>?_
  exact oq _ n
 .refine oq o (A.keep b o e λf=>?_)
  rcases f with f |⟨a,c,J,N⟩ |f
  .exact f rfl
  .contradiction
  .exact l f
variable {dg:mV}
theorem gR (m:MM) (i:2<=a) (f:PG.fns[d]? =some dg) (g:bindArgs dg l=some m) (h:js PG (eF PG a) dg.body m b λe _ j=>∃c,eC c j/\n (y_ e) c):eF PG (a+1) (.fn d) l b n:=
 (n0 i dg m f g h)
theorem call_cls (f:PG.Dt[d]? =some bP) (h:∀c e,b.free c->b.free e->c≠e->eF PG a (.fn bP.init) (.ref c::l) (b.set c (.inst d e [])) λv g=>v= .none/\n (.ref c) g):
 eF PG (a+1) (.cls d) l b n:=ei bP f h
theorem jM (h:Ip d l b n):eF PG (a+1) (.bi d) l b n:=h
theorem Kg (I:List a9->h->v->Prop) (l:a9->(h->v->Prop)->h->v->Prop) (n:h->v->Prop):
 ∀(g done:List a9) (m:h) (a:v),I done m a->
  (∀d x r m a,done++g=d++x::r->I d m a->∀k:h->v->Prop,(∀b c,I (d++[x]) b c->k b c)->l x k m a)->
  (∀m a,I (done++g) m a->n m a)->g.foldr l n m a:=by
 intro t
 induction t with
 |nil=>
  intro done m a i _ f
  simpa using f m a (by simpa using i)
 |cons x r q=>
  intro done m a i j f
  refine j done x r m a rfl i _ λb c o=>?_
  refine q (done++[x]) b c o (λd y s m a e=>j d y s m a (by simpa using e)) λm a p=>f m a (by simpa using p)
theorem vm (I:List a9->h->v->Prop) {b:a9->(h->v->Prop)->h->v->Prop} {a:List a9} (l:I [] dn dW) (g:∀d x r dn dW,a=d++x::r->I d dn dW->∀k:h->v->Prop,(∀c f,I (d++[x]) c f->k c f)->b x k dn dW) (i:∀dn dW,I a dn dW->dp dn dW):a.foldr b dp dn dW:=
 Kg I b dp a [] dn dW l (λd x r dn dW e=>g d x r dn dW (by simpa using e)) (λdn dW j=>i dn dW (by simpa using j))
theorem CL {e:(h->v->Prop)->h->v->Prop} (I:Nat->h->v->Prop) (f:I a dn dW) (g:∀a dn dW,I a dn dW->∀k:h->v->Prop,(∀b c d,b<a->I b c d->k c d)->e k dn dW):
 ∃n:Nat,N7 (motive:=λ_=>h->v->Prop) (λ_ _=>False) (λ_ k=>e k) n dn dW:=by
 have l:∀n a dn dW,a<n->I a dn dW->N7 (motive:=λ_=>h->v->Prop) (λ_ _=>False) (λ_ k=>e k) n dn dW:=by
  intro n
  induction n with
  |zero=>intro a dn dW f;exact absurd f (pd _)
  |succ n p=>intro a dn dW m j;exact g a dn dW j _ λb c d i o=>p b c d (by exact ej i (eY m)) o
 exact ⟨a+1,l _ a dn dW (fJ _) f⟩
theorem SD {p:v->Bool} {f:v->AV} {e:v->(List AV->h->Prop)->List AV->h->Prop} {g:List AV->h->Prop}:
 ∀(c:List v) (a:List AV),(∀x∈c,∀(k:List AV->h->Prop) (a:List AV),k (if p x then a++[f x] else a) dn->e x k a dn)->
  g (a++(c.filter p).map f) dn->c.foldr e g a dn:=by
 intro m
 induction m with
 |nil=>
  intro a _ b
  simpa using b
 |cons x r l=>
  intro a d b
  refine d x (.head _) _ _ ?_
  refine l _ (λy j=>d y (.tail _ j)) ?_
  induction i:p x with
  |true=>simpa [i] using b
  |false=>simpa [i] using b
noncomputable def tI (w:List Int):AV:=.tup (w.map .int)
theorem yv (n:Nat) (w:List Int):iF (n+1) (tI w):=.tup _ _ λx a=>by
 refine iQ x (ck.mp a) λi _=>?_;exact .int _ i
theorem xy (w:List Int):Plain (tI w):=yv 5 w
theorem wo (w:List Int):∀x∈w.map AV.int,Plain x:=λx a=>by
 refine iQ x (ck.mp a) λi _=>?_;exact .int _ i
variable {cu:List Int}
theorem IX (h:a8.map AV.int=cu.map AV.int):a8=cu:=by
 induction a8 generalizing cu with
 |nil=>exact (jx.mp h.symm).symm
 |cons x a8 c=>
  induction cu using el with
  |nil=>contradiction
  |cons y cu=>
   refine iP (ft h) λa b=>?_
   rw [AV.int.inj a,c b]
theorem Hz (h:tI a8=tI cu):a8=cu:=IX (AV.tup.inj h)
theorem MS:Eqv b (tI a8) (tI cu) (decide (a8=cu)):=.plain (xy a8) (xy cu) _ (decide_eq_true_iff.trans ⟨λh=>congrArg tI h,Hz⟩)
noncomputable def RK:List (Nat×CE)->w_
 |[]=>.nil
 |(x,e)::r=>.cons (.iE (.var 0) x e) (RK r)
noncomputable def RL (m:MM):CE->Option AV
 | .var i=>(m[i]?).join
 | .cst v=>some v
 |_=>none
noncomputable def PK:List (Nat×CE)->List AV->List (Nat×AV)->List (Nat×AV)
 |(x,_)::r,v::vs,fs=>PK r vs (iB fs x v)
 |_,_,fs=>fs
theorem PL (h:RL e g=some i) (a:n i b):VE PG j g e b n:=by
 induction g using CE.casesOn with
 |var c=>
  have h:(e[c]?).join=some i:=h
  refine ei i ?_ a
  induction g:e[c]? using d_ with
  |none=>rw [g] at h;contradiction
  |some w=>rw [g] at h;exact congrArg some h
 |cst w=>(injection h with h;subst h);exact a
 |_=>contradiction
theorem Un (n:e[0]? =some (some (.ref a))) {c:List (Nat×CE)} (f:b a=some (.inst d o aT)) (k:c.map (λp=>RL e p.2)=l.map some) (h:ag .next e (b.set a (.inst d o (PK c l aT)))):js PG j (RK c) e b ag:=by
 induction c generalizing l aT b with
 |nil=>
  induction l using el with
  |nil=>rwa [show b.set a (.inst d o (PK [] [] aT))=b from AS.set_same f] at h
  |cons v l=>contradiction
 |cons p c m=>
  induction l using el with
  |nil=>contradiction
  |cons v l=>
   refine iP (ft k) λg i=>?_
   exact PL g (ei _ n (.mk f (m (gZ _ _ _) i (by rw [Oj];exact h))))
theorem yw {g:List (Nat×CE)} (i:4<=a) (q:PG.Dt[d]? =some bP) (j:PG.fns[bP.init]? =some dg) (t:∀c,bindArgs dg (.ref c::l)=some (some (.ref c)::e)) (r:dg.body=RK g) (o:∀c:Nat,g.map (λp=>RL (some (.ref c)::e) p.2)=aN.map some) (h:∀c f,b.free c->b.free f->c≠f->n (.ref c) (b.set c (.inst d f (PK g aN [])))):eF PG a (.cls d) l b n:=by
 obtain ⟨a,rfl⟩:∃k,a=k+2:=oq (a -2) (by exact U2 i)
 refine call_cls q λc f u s m=>gR _ (by exact Xe i) j (t c) ?_
 rw [r]
 refine Un rfl (gZ _ _ _) (o c) (gp _ (ee _) rfl ?_)
 rw [Oj]
 exact h c f u s m
theorem tu (e:4<=a) (h:∀c d,b.free c->b.free d->c≠d->n (.ref c) (b.set c (.inst 0 d [(33,i)]))):eF PG a (.cls 0) [i] b n:=
 yw (aN:=[i]) (g:=[(33,.var 1)]) (e:=[some i]) e rfl rfl (λ_=>rfl) rfl (λ_=>rfl) h
theorem tv (e:4<=a) (h:∀c d,b.free c->b.free d->c≠d->n (.ref c) (b.set c (.inst 5 d [(54,i)]))):eF PG a (.cls 5) [i] b n:=
 yw (aN:=[i]) (g:=[(54,.var 1)]) (e:=[some i]) e rfl rfl (λ_=>rfl) rfl (λ_=>rfl) h
theorem AP (e:4<=a) (h:∀c d,b.free c->b.free d->c≠d->n (.ref c) (b.set c (.inst 8 d [(33,i),(58,af),(55,b7)]))):eF PG a (.cls 8) [i,af,b7] b n:=
 yw (aN:=[i,af,b7]) (g:=[(33,.var 1),(58,.var 2),(55,.var 3)]) (e:=[some i,some af,some b7]) e rfl rfl (λ_=>rfl) rfl (λ_=>rfl) h
theorem HA (e:4<=a) {x:AV} (h:∀c d,b.free c->b.free d->c≠d->n (.ref c) (b.set c (.inst 3 d [(37,i),(47,af),(48,b7),(49,x)]))):eF PG a (.cls 3) [i,af,b7,x] b n:=
 yw (aN:=[i,af,b7,x]) (g:=[(37,.var 1),(47,.var 2),(48,.var 3),(49,.var 4)]) (e:=[some i,some af,some b7,some x]) e rfl rfl (λ_=>rfl) rfl (λ_=>rfl) h
noncomputable def MT (g c m:AV):List (Nat×AV):=[(34,.int 0),(29,g),(35,c),(36,m),(31,.bool false),(24,.int 0),(25,.int 0),(26,.int 0),(30,.int 0),(37,.str []),(38,.int 0),(39,.int 0),(40,.int 0),(41,.int 0),(42,.int 0),(43,.str [])]
theorem MU (e:4<=a) (h:∀c d,b.free c->b.free d->c≠d->n (.ref c) (b.set c (.inst 1 d (MT i af (.int 0))))):eF PG a (.cls 1) [.int 0,i,af] b n:=
 yw (aN:=[.int 0,i,af,.int 0,.bool false,.int 0,.int 0,.int 0,.int 0,.str [],.int 0,.int 0,.int 0,.int 0,.int 0,.str []])
  (g:=[(34,.var 1),(29,.var 2),(35,.var 3),(36,.cst (.int 0)),(31,.cst (.bool false)),(24,.cst (.int 0)),(25,.cst (.int 0)),(26,.cst (.int 0)),(30,.cst (.int 0)),(37,.cst (.str [])),(38,.cst (.int 0)),(39,.cst (.int 0)),(40,.cst (.int 0)),(41,.cst (.int 0)),(42,.cst (.int 0)),(43,.cst (.str []))])
  (e:=[some (.int 0),some i,some af]) e rfl rfl (λ_=>rfl) rfl (λ_=>rfl) h
theorem HE (e:4<=a) (h:∀c d,b.free c->b.free d->c≠d->n (.ref c) (b.set c (.inst 2 d [(28,i),(44,.bool false),(45,.int 0),(46,.int 0)]))):eF PG a (.cls 2) [i] b n:=
 yw (aN:=[i,.bool false,.int 0,.int 0]) (g:=[(28,.var 1),(44,.var 2),(45,.cst (.int 0)),(46,.cst (.int 0))]) (e:=[some i,some (.bool false)]) e rfl rfl (λ_=>rfl) rfl (λ_=>rfl) h
noncomputable def Ev (X:zU) (m:MM) (st:AS) (e:CE) (v:AV):Prop:=∀Q:AV->AS->Prop,Q v st->VE PG X e m st Q
noncomputable def HG (X:zU) (m:MM) (st:AS) (es:wL) (vs:List AV):Prop:=∀Q:List AV->AS->Prop,Q vs st->Ir PG X es m st Q
noncomputable def Tv (X:zU) (m:MM) (st:AS) (e:CE) (b:Bool):Prop:=∀Q:Bool->AS->Prop,Q b st->VT PG X e (VE PG X e) m st Q
noncomputable def Za (X:zU) (m:MM) (st:AS) (es:wL) (b:Bool):Prop:=∀Q:Bool->AS->Prop,Q b st->LA PG X es m st Q
theorem a5 (h:e[a]? =some (some i)):Ev j e b (.var a) i:=λQ c=>ei i h c
theorem d3:Ev j e b (.cst i) i:=λQ a=>a
theorem gS:HG j e b .nil []:=λQ a=>a
theorem oK (h:Ev j e b g i) (a:HG j e b aq l):HG j e b (.cons g aq) (i::l):=λQ c=>h _ (a _ c)
theorem iO (h:Ev j e b g i):HG j e b (.cons g .nil) [i]:=oK h gS
theorem iR (h:Ev j e b g i) (a:Ev j e b D af):HG j e b (.cons g (.cons D .nil)) [i,af]:=oK h (iO a)
theorem vH (h:Ev j e b g i) (c:Ev j e b D af) (a:Ev j e b aL b7):HG j e b (.cons g (.cons D (.cons aL .nil))) [i,af,b7]:=oK h (iR c a)
theorem g7 (h:HG j e b aq l):Ev j e b (.tup aq) (.tup l):=λQ a=>h _ a
theorem eP (h:Ev j e b g (.ref d)) (c:b d=some (.inst o I aT)) (f:aT.lookup a=some i):Ev j e b (.attr g a) i:=λQ k=>h _ (.mk c f k)
theorem DT (h:Ev j e b g i) (c:Ev j e b D af) (a:∀Q:AV->AS->Prop,Q b7 b->zE b Q i af):Ev j e b (.sub g D) b7:=λQ d=>h _ (c _ (a _ d))
theorem AQ (b:l[a]? =some i):itemAt l (a:Int)=some i:=(if_pos (gF a)).trans b
theorem CM (c:b a=some (.list l)) (e:l[d]? =some i) (f:n i b):zE b n (.ref a) (.int d):=.list c (AQ e) f
theorem FF (c:l[a]? =some i) (d:n i b):zE b n (.tup l) (.int a):=.tup (AQ c) d
theorem Kh (c:b a=some (.dict aC)) (e:te i aC) (d:(i,af)∈aC) (f:n af b):zE b n (.ref a) i:=.dict c e d f
theorem fy (h:Ev j e b g (.ref a)) (c:b a=some (.list l)) (f:Ev j e b D (.int d)) (k:l[d]? =some i):Ev j e b (.sub g D) i:=DT h f λ_ m=>CM c k m
theorem px (h:Ev j e b g (.tup l)) (c:Ev j e b D (.int a)) (d:l[a]? =some i):Ev j e b (.sub g D) i:=DT h c λ_ f=>FF d f
theorem sg (h:Ev j e b g (.ref a)) (c:b a=some (.dict aC)) (d:Ev j e b D i) (k:te i aC) (f:(i,af)∈aC):Ev j e b (.sub g D) af:=DT h d λ_ l=>Kh c k f l
theorem ie (h:Ev j e b g (.int q)) (a:Ev j e b D (.int aB)) (c:binI bN q aB=some cf):Ev j e b (.bin bN g D) (.int cf):=λQ d=>h _ (a _ (.int c d))
theorem AR (h:Ev j e b g (.tup l)) (a:Ev j e b D (.tup aN)) (c:l.length+aN.length<=fG):Ev j e b (.bin .add g D) (.tup (l++aN)):=λQ d=>h _ (a _ (.cat c d))
theorem wq (h:Ev j e b g (.int q)):Ev j e b (.neg g) (.int (-q)):=λQ a=>h _ (.mk a)
variable {bE:Om}
theorem fW (h:Ev j e b g i) (a:Ev j e b D af) (c:∀Q:Bool->Prop,Q aw->pR b Q bE i af):Ev j e b (.cmp g bE D) (.bool aw):=λQ d=>h _ (a _ (c (λaw=>Q (.bool aw) b) d))
theorem eq_int (c:aw=decide (q=aB)) (Q:Bool->Prop) (a:Q aw):pR b Q .eq (.int q) (.int aB):=.eq (.plain (.int _ q) (.int _ aB) aw (by rw [c,decide_eq_true_iff];exact ⟨λh=>by rw [h],λh=>AV.int.inj h⟩)) a
theorem ne_int (c:aw= !decide (q=aB)) (Q:Bool->Prop) (a:Q aw):pR b Q .ne (.int q) (.int aB):=.ne (.plain (.int _ q) (.int _ aB) (decide (q=aB)) (by rw [decide_eq_true_iff];exact ⟨λh=>by rw [h],λh=>AV.int.inj h⟩)) (c▸a)
theorem U_ (c:Tt bE q aB=some aw) (Q:Bool->Prop) (a:Q aw):pR b Q bE (.int q) (.int aB):=.ord c a
theorem oe (c:aw=decide (q<aB)) (Q:Bool->Prop) (a:Q aw):pR b Q .lt (.int q) (.int aB):=.ord (congrArg some c.symm) a
theorem f_ (h:Ev j e b (.cmp g bE D) (.bool aw)):Tv j e b (.cmp g bE D) aw:=λQ a=>h _ (ei _ (.bool _) a)
theorem yx (h:Tv j e b g aw) (c:aw=true->Tv j e b D bO):Tv j e b (.and g D) (aw&&bO):=λQ a=>h _ (by
 clear h;induction aw with
 |true=>exact c rfl _ a
 |false=>exact a)
theorem MV (h:Tv j e b g aw) (c:aw=false->Tv j e b D bO):Tv j e b (.or g D) (aw||bO):=λQ a=>h _ (by
 clear h;induction aw with
 |false=>exact c rfl _ a
 |true=>exact a)
theorem V' (h:Tv j e b g aw):Tv j e b (.not g) (!aw):=λQ a=>h _ a
theorem RM (h:e[a]? =some (some (.ref d))) (c:b d=some (.list l)):Tv j e b (.var a) (!l.isEmpty):=λQ f=>Dk _ h _ (.list c) f
theorem xA (c:Ev j e b g i) (a:HG j e b aq l) (h:∀Q:AV->AS->Prop,Q af b->j i l b Q):Ev j e b (.call g aq) af:=λQ d=>c _ (a _ (h _ d))
theorem g8 (c:Ev j e b g i) (a:HG j e b aq l) (h:j i l b n):VE PG j (.call g aq) e b n:=c _ (a _ h)
theorem ju (m:Ev j e b g (.ref d)) (i:b d=some (.inst o I aT)) (p:aT.lookup a=none) (c:PG.Dt[o]? =some bP) (k:bP.meths.lookup a=some ak) (f:HG j e b aq l) (h:j (.fn ak) (.ref d::l) b n):VE PG j (.fO g a aq) e b n:=m _ (.inst i p c k (f _ h))
theorem IY (f:Ev j e b g (.ref d)) (c:b d=some (.list l)) (i:a=0\/a=3) (k:HG j e b aq aN) (h:y8 d l b n a aN):VE PG j (.fO g a aq) e b n:=f _ (.list c i (k _ (ei _ c h)))
theorem DU (f:Ev j e b g (.ref d)) (c:b d=some (.dict aC)) (i:a=1\/a=2) (k:Ir PG j aq e b λh b=>∃aC,b d=some (.dict aC)/\y9 d aC b n a h):VE PG j (.fO g a aq) e b n:=f _ (.dict c i k)
theorem jj (h:Ev (eF PG (a+1)) e b g i) (d:∀Q:List AV->Prop,Q l->pq b Q i):Ev (eF PG (a+1)) e b (.call (.cst (.bi 0)) (.cons g .nil)) (.int l.length):=λQ c=>h _ (.mk (d _ λ_=>c))
theorem f' (c:b a=some (.list l)) (Q:List AV->Prop) (d:Q l):pq b Q (.ref a):=.list c d
theorem q_ (c:b a=some (.dict aC)) (e:IntKeys aC) (Q:List AV->Prop) (d:Q (aC.map (·.1))):pq b Q (.ref a):=.dict c e d
theorem gJ (c:b a=some (.list l)) (d:bK (.list a l) l):om b bK (.ref a):=.list c d
theorem vn (c:b a=some (.dict aC)) (e:IntKeys aC) (d:bK (.dict a (aC.map (·.1))) (aC.map (·.1))):om b bK (.ref a):=.dict c e d
noncomputable abbrev Nx (X:zU) (r:w_) (Q:Fl->MM->AS->Prop):Fl->MM->AS->Prop:=λfl m st=>match fl with | .next=>js PG X r m st Q |fl=>Q fl m st
theorem g_ (c:Ev j e b g i) (h:js PG j ah (e.set a (some i)) b ag):js PG j (.cons (.asg a g) ah) e b ag:=c _ h
theorem iS (a:Ev j e b g i) (h:ag (.ret i) e b):js PG j (.cons (.ret g) ah) e b ag:=a _ h
theorem QK (h:ag .brk e b):js PG j (.cons .brk ah) e b ag:=h
theorem ko {a:w_} (c:Tv j e b g aw) (d:aw=true->js PG j bg e b (Nx j ah ag)) (f:aw=false->js PG j a e b (Nx j ah ag)):js PG j (.cons (.iff g bg a) ah) e b ag:=c _ (by
 clear c;induction aw with
 |true=>exact d rfl
 |false=>exact f rfl)
noncomputable abbrev hJ:=List Int
noncomputable abbrev Row:=hJ×Int
structure Au where
 steps:List (List (Int×Nat))
 ends:List Int
noncomputable def dV (s:List (Int×Nat)):List (AV×AV):=s.map λp=>(.int p.1,.int p.2)
noncomputable def ig (r:Row):AV:=.tup [tI r.1,.int r.2]
inductive kg (st:AS):List Nat->List (List (Int×Nat))->Prop where
 |nil:kg st [] []
 |cons {d:Nat} {s:List (Int×Nat)} {ds:List Nat} {ss:List (List (Int×Nat))} (h:st d=some (.dict (dV s))) (r:kg st ds ss):kg st (d::ds) (s::ss)
structure CN (st:AS) (a dx l e:Nat) (ds:List Nat) (A:Au):Prop where
 obj:st a=some (.inst 6 dx [(32,.ref l),(55,.ref e)])
 steps:st l=some (.list (ds.map .ref))
 ends:st e=some (.list (A.ends.map .int))
 AU:kg st ds A.steps
inductive ng (st:AS) (a:Nat) (A:Au):Prop where
 |mk (dx l e:Nat) (ds:List Nat) (h0:CN st a dx l e ds A):ng st a A
structure Au.Ok (A:Au):Prop where
 len:A.ends.length=A.steps.length
 pos:0<A.steps.length
 to:∀s∈A.steps,∀p∈s,p.2<A.steps.length
 nd:∀s∈A.steps,(s.map (·.1)).Nodup
noncomputable def Au.at (A:Au) (n:Nat):List (Int×Nat):=A.steps.getD n []
noncomputable def Au.step (A:Au) (n:Nat) (g:Int):Option Nat:=(A.at n).lookup g
open Mine.Au renaming step->Vt
noncomputable def Au.end (A:Au) (n:Nat):Int:=A.ends.getD n (-1)
noncomputable def FG:Option Nat->Int
 |some t=>t
 |none=>-1
variable {aP:List (List (Int×Nat))}
theorem kg.le (a:eC b p) (h:kg b C aP):kg p C aP:=by
 induction h with
 |nil=>exact .nil
 |cons h _ c=>exact .cons (a _ _ h) c
variable {t:Au}
theorem ng.le (h:ng b a t) (c:eC b p):ng p a t:=let ⟨d,l,e,f,h⟩:=h;⟨d,l,e,f,c _ _ h.obj,c _ _ h.steps,c _ _ h.ends,h.AU.le c⟩
theorem kg.length (h:kg b C aP):C.length=aP.length:=by
 induction h with
 |nil=>rfl
 |cons _ _ a=>exact congrArg rY a
theorem kg.get (h:kg b C aP) {i:Nat} {s} (e:aP[i]? =some s):∃d,C[i]? =some d/\b d=some (.dict (dV s)):=by
 induction h generalizing i with
 |nil=>contradiction
 |cons h _ a=>
  induction i using ja with
  |zero=>clear a;(injection e with e;subst e);exact ei _ rfl h
  |succ i=>exact a e
variable {aD:List (Int×Nat)}
theorem rP (h:aD.lookup q=some a):(AV.int q,AV.int a)∈dV aD:=by
 induction aD with
 |nil=>contradiction
 |cons p r b=>
  obtain ⟨y,v⟩:=p
  rw [eN] at h
  split at h
  .rename_i e;have:=eq_of_beq e;clear b e;subst this;obtain rfl:=d5 h;exact .head _
  .exact .tail _ (b h)
theorem DV (h:aD.lookup q=none):AV.int q∉(dV aD).map (·.1):=by
 induction aD with
 |nil=>simp [dV]
 |cons p r a=>
  obtain ⟨y,v⟩:=p
  rw [eN] at h
  split at h
  .contradiction
  .rename_i e
   have c:q≠y:=λb=>by subst b;simp at e
   simp only [dV,eI,eL,AV.int.injEq,not_or]
   exact ⟨c,a h⟩
theorem nS (s:List (Int×Nat)):IntKeys (dV s):=λp a=>by
 refine iQ p (ck.mp a) λq _=>?_;exact ⟨q.1,rfl⟩
theorem V_ (a:List Int) (i:Nat):(a.map AV.int)[i]? =(a[i]?).map AV.int:=ed ..
theorem yy (b:a<t.steps.length):t.steps[a]? =some (t.at a):=by
 unfold Au.at;rw [ec,dj b];rfl
theorem CN.dict (h:CN b a d o I C t) (g:ak<t.steps.length):∃c,(C.map AV.ref)[ak]? =some (.ref c)/\b c=some (.dict (dV (t.at ak))):=by
 refine eS (h.AU.get (yy g)) λc f e=>?_
 exact ei c (by rw [ed,f];rfl) e
theorem CN.len (h:CN b a d o I C t):(C.map AV.ref).length=t.steps.length:=by rw [bb,h.AU.length]
theorem vo (c:t.Ok) (b:a<t.steps.length):(t.ends.map AV.int)[a]? =some (.int (t.end a)):=by
 have d:a<t.ends.length:=by rw [c.len];exact b
 unfold Au.end
 rw [ed,ec,dj d];rfl
theorem sI (c:4<=d) (h:ng b a t) (f:n (.int t.steps.length) b):eF PG d (.fn 45) [.ref a] b n:=by
 obtain ⟨d,rfl⟩:∃k,d=k+2:=oq (d -2) (by exact U2 c)
 obtain ⟨g,l,e,i,h⟩:=h
 refine gR [some (.ref a)] (by exact Qs c) rfl rfl (iS (jj (eP (a5 rfl) h.obj rfl) (f' h.steps)) (ei b (ee _) ?_))
 rw [h.len];exact f
theorem yz (i:3<=d) (h:ng b a t) (k:o<t.steps.length) (c:n (.int (FG (t.step o q))) b):eF PG d (.fn 46) [.ref a,.int o,.int q] b n:=by
 obtain ⟨d,rfl⟩:∃o,d=o+1:=oq (d -1) (by exact Ol i)
 obtain ⟨m,l,e,r,h⟩:=h
 refine eS (h.dict k) λs j g=>?_
 refine gR [some (.ref a),some (.int o),some (.int q)] (by exact eY i) rfl rfl (DU (fy (eP (a5 rfl) h.obj rfl) h.steps (a5 rfl) j) g (.inl rfl) (iR (a5 rfl) d3 _ ?_))
 refine ei _ g (.Ha (nS _) ?_)
 induction f:t.step o q using d_ with
 |some p=>
  rw [f] at c
  exact .inl (Dk _ (rP f) b (ee _) c)
 |none=>
  rw [f] at c
  exact .inr (tT (DV f) b (ee _) c)
noncomputable def xB (lo hi:Nat):List AV:=(eR (hi -lo)).map λk=>.int (lo+k:Nat)
theorem tw (c:bK .pZ (xB a d)):om b bK (.pZ a d 1):=.pZ (by
 unfold xa xB
 rw [if_pos rfl,show ((d:Int) - (a:Int)).toNat=d -a by exact EL d a]
 rfl) c
theorem PM (h:xB a d=l++i::aN):i= .int (a+l.length:Nat)/\a+l.length<d:=by
 have c:=congrArg fk h
 simp only [xB,bb,fg,bh,ff] at c
 have b:(xB a d)[l.length]? =some i:=by rw [h];simp
 unfold xB at b
 rw [ed,jy (by exact U3 c)] at b
 exact ⟨(d5 b).symm,by exact Vy c⟩
theorem MW:(xB a d).length=d -a:=by simp [xB]
noncomputable def iH (A:Au):Nat->Nat->Nat×Int->List Int->Nat×Int
 |_,_,best,[]=>best
 |k,spot,best,g::r=>match A.step k g with
  |none=>best
  |some t=>iH A t (spot+1) (if A.end t= -1 then best else (spot+1,A.end t)) r
variable {dh:Nat×Int}
theorem p6:iH t a d dh (q::a8)=(match t.step a q with
 |none=>dh
 |some b=>iH t b (d+1) (if t.end b= -1 then dh else (d+1,t.end b)) a8):=rfl
theorem oh (c:t.Ok) (h:t.step a q=some d):d<t.steps.length:=by
 have b:(q,d)∈t.at a:=by
  have:∀{s:List (Int×Nat)},s.lookup q=some d->(q,d)∈s:=by
   intro s
   induction s with
   |nil=>intro h;contradiction
   |cons p r f=>
    obtain ⟨y,v⟩:=p
    intro h
    rw [eN] at h
    split at h
    .rename_i e;have:=eq_of_beq e;clear c f e;subst this;obtain rfl:=d5 h;exact .head _
    .exact .tail _ (f h)
  exact this h
 unfold Au.at at b
 rw [ec] at b
 induction e:t.steps[a]? with
 |none=>rw [e] at b;contradiction
 |some s=>rw [e] at b;exact c.to s (fj e) (q,d) b
theorem xC (y:5<=d) (h:ng b a t) (s:t.Ok) (A:b o=some (.list (a8.map .int))) (C:a8.length<=1000000) (D:I<=a8.length) (u:n (.tup [.int (iH t 0 I (I,-1) (a8.drop I)).1,.int (iH t 0 I (I,-1) (a8.drop I)).2]) b):eF PG d (.fn 51) [.ref a,.ref o,.int I] b n:=by
 obtain ⟨d,rfl⟩:∃k,d=k+2:=oq (d -2) (by exact U2 y)
 obtain ⟨V,l,e,W,r⟩:=id h
 refine gR [some (.ref a),some (.ref o),some (.int I),none,none,none] (by exact Qs y) rfl rfl (g_ d3 (g_ (g7 (iR (a5 rfl) d3)) ?_))
 refine g8 (i:=.bi 4) d3 (iR (a5 rfl) (jj (a5 rfl) (f' A))) (ei [(I:Int),((a8.map AV.int).length:Int)] rfl ?_)
 rw [bb]
 refine .two (iD (by exact a_ D C) (by exact C) (tw ?_))
 generalize F:iH t 0 I (I,-1) (a8.drop I)=R at u
 refine vm (λ(f:List AV) (m:MM) Q=>b=Q/\∃(k:Nat) (i:Nat×Int) (w:Option AV),m=[some (.ref a),some (.ref o),some (.int I),some (.int k),some (.tup [.int i.1,.int i.2]),w]/\k<t.steps.length/\iH t k (I+f.length) i (a8.drop (I+f.length))=R)
  ⟨rfl,0,(I,-1),none,rfl,s.pos,F⟩ ?_ ?_
 .intro f x l m _ e T K L;refine ES T λE k i w G B c=>?_;subst E;subst G
  refine Qq x (PM e) λO=>?_
  have J:a8[I+f.length]? =some a8[I+f.length]:=dj O
  rw [fR O] at c
  have P:(a8.map AV.int)[I+f.length]? =some (.int a8[I+f.length]):=by rw [ed,J];rfl
  refine tT trivial _ rfl (g_ (λn u=>ju (a5 rfl) r.obj rfl rfl rfl (iR (a5 rfl) (fy (a5 rfl) A (a5 rfl) P)) (yz (by exact Qs y) h B u)) ?_)
  refine ko (f_ (fW (a5 rfl) d3 (eq_int rfl))) (λp=>?_) λp=>?_
  .have M:t.step k a8[I+f.length]=none:=by
    induction z:t.step k a8[I+f.length] using d_ with
    |none=>rfl
    |some g=>
     rw [z] at p
     have p:=of_decide_eq_true p
     have:((g:Nat):Int)= -1:=p
     exact (JD this.symm).elim
   rw [p6] at c
   rw [M] at c
   have c:i=R:=c
   clear h s A C D y r F B e L J P p M;subst c
   refine QK ?_
   show js PG _ (w_.cons (CS.ret (CE.var 4)) w_.nil) _ _ _
   exact iS (a5 rfl) (ei _ (ee _) u)
  .induction z:t.step k a8[I+f.length] using d_ with
   |none=>rw [z] at p;exact absurd p (by decide)
   |some g=>
    have H:=oh s z
    rw [p6] at c
    rw [z] at c
    have c:iH t g (I+f.length+1) (if t.end g= -1 then i else (I+f.length+1,t.end g)) (a8.drop (I+f.length+1))=R:=c
    have N:∀(v:Nat×Int),iH t g (I+f.length+1) v (a8.drop (I+f.length+1))=R->K [some (.ref a),some (.ref o),some (.int I),some (.int g),some (.tup [.int v.1,.int v.2]),some (.int (I+f.length:Nat))] b:=λv S=>
     L _ _ ⟨rfl,g,v,_,rfl,H,(by rw [bh];exact S)⟩
    refine ko (f_ (fW (fy (eP (a5 rfl) r.obj rfl) r.ends (a5 rfl) (vo s H)) d3 (ne_int rfl))) (λj=>?_) λj=>?_
    .have j:t.end g≠-1:=λq=>by rw [q] at j;exact absurd j (by decide)
     rw [if_neg j] at c
     exact g_ (g7 (iR (ie (a5 rfl) d3 rfl) (fy (eP (a5 rfl) r.obj rfl) r.ends (a5 rfl) (vo s H)))) (N (I+f.length+1,t.end g) c)
    .have j:t.end g= -1:=by
      refine gj λq=>?_
      rw [decide_eq_false q] at j;exact absurd j (by decide)
     rw [if_pos j] at c
     exact N i c
 .clear h s A C y r F;intro m _ U;refine ES U λE k i w G B c=>?_;subst E;subst G
  rw [MW,show I+(a8.length -I)=a8.length by exact Nat.add_sub_of_le D,ox] at c
  refine ⟨trivial,iS (a5 rfl) (ei _ (ee _) ?_)⟩
  have c:i=R:=c
  clear D B;subst c
  exact u
theorem DW (A:Au) (c:Nat):∀(r:List Int) (k a:Nat) (b:Nat×Int),iH A k (c+a) (c+b.1,b.2) r=(c+(iH A k a b r).1,(iH A k a b r).2):=by
 intro e
 induction e with
 |nil=>
  intro _ _ _
  exact rfl
 |cons g r d=>
  intro k a b
  rw [p6,p6]
  induction A.step k g with
  |none=>rfl
  |some t=>
   have:=d t (a+1) (if A.end t= -1 then b else (a+1,A.end t))
   dsimp only
   rw [<-this]
   by_cases h:A.end t= -1
   .rw [if_pos h,if_pos h];rfl
   .rw [if_neg h,if_neg h];rfl
noncomputable def j8 (A:Au) (s:List Int):Nat×Int:=iH A 0 0 (0,-1) s
theorem CO (A:Au) (c:Nat) (s:List Int):iH A 0 c (c,-1) s=(c+(j8 A s).1,(j8 A s).2):=DW A c s 0 0 (0,-1)
theorem Ki (A:Au):∀(r:List Int) (k a:Nat) (b:Nat×Int),b.1<=a->(b.2≠-1->0<b.1)->(iH A k a b r).1<=a+r.length/\((iH A k a b r).2≠-1->0<(iH A k a b r).1):=by
 intro f
 induction f with
 |nil=>
  intro _ _ _ h c
  exact ⟨h,c⟩
 |cons g r e=>
  intro k a b h c
  rw [p6]
  induction A.step k g with
  |none=>exact ⟨a_ h (eh _ _),c⟩
  |some t=>
   dsimp only
   have:(if A.end t= -1 then b else (a+1,A.end t)).1<=a+1/\((if A.end t= -1 then b else (a+1,A.end t)).2≠-1->0<(if A.end t= -1 then b else (a+1,A.end t)).1):=by
    by_cases d:A.end t= -1
    .rw [if_pos d];exact ⟨f5 h,c⟩
    .rw [if_neg d];exact ⟨eK _,λ_=>fC _⟩
   have:=e t (a+1) _ this.1 this.2
   rw [ff]
   exact ⟨by exact Wn this.1 (g5 _ _ _),this.2⟩
theorem FH (A:Au) (s:List Int):(j8 A s).1<=s.length/\((j8 A s).2≠-1->0<(j8 A s).1):=by
 have:=Ki A s 0 0 (0,-1) (eK _) (λh=>absurd rfl h)
 rwa [i4] at this
noncomputable def oU:List Au->List Int->Nat×Int->Nat×Int
 |[],_,b=>b
 |A::r,s,b=>oU r s (if b.2= -1 then j8 A s else b)
theorem uR (A:Au) (r:List Au) (s:List Int) (b:Nat×Int):oU (A::r) s b=oU r s (if b.2= -1 then j8 A s else b):=rfl
noncomputable def fZ (As:List Au) (s:List Int):Nat×Int:=if (oU As s (0,-1)).2= -1 then (1,s.headD 0) else oU As s (0,-1)
theorem Kj:∀(c:List Au) (s:List Int) (b:Nat×Int),b.1<=s.length->(b.2≠-1->0<b.1)->(oU c s b).1<=s.length/\((oU c s b).2≠-1->0<(oU c s b).1):=by
 intro f
 induction f with
 |nil=>
  intro _ _ h a
  exact ⟨h,a⟩
 |cons A r e=>
  intro s b h a
  rw [uR]
  by_cases d:b.2= -1
  .rw [if_pos d];exact e s _ (FH A s).1 (FH A s).2
  .rw [if_neg d];exact e s b h a
theorem rd (a:List Au) (b:0<a8.length):(fZ a a8).1<=a8.length/\0<(fZ a a8).1:=by
 have:=Kj a a8 (0,-1) (fA _) (λh=>absurd rfl h)
 unfold fZ
 by_cases h:(oU a a8 (0,-1)).2= -1
 .rw [if_pos h];exact ⟨b,j_⟩
 .rw [if_neg h];exact ⟨this.1,this.2 h⟩
noncomputable def iK (next:List Int->Nat×Int):Nat->List Int->List Int
 |0,_=>[]
 |_+1,[]=>[]
 |f+1,g::r=>(next (g::r)).2::iK next f ((g::r).drop (next (g::r)).1)
theorem rf (d:Ev j e b g (.tup l)) (c:jI C (.tup l) e=some bQ) (a:2<=C.length) (h:js PG j ah bQ b ag):js PG j (.cons (.td C g) ah) e b ag:=d _ (pk _ _ rfl c a h)
theorem QL (l:Ev j e b g i) (h:om b (λc f=>f.foldr (λx k e b=>c.ok b/\∃a,jI C x e=some a/\ js PG j bg a b λd e b=>(match d with | .next=>k e b | .brk=>Nx j ah ag .next e b | .ret i=>Nx j ah ag (.ret i) e b)) (λe b=>c.ok b/\Nx j ah ag .next e b) e b) i):js PG j (.cons (.kj C g bg) ah) e b ag:=l _ h
theorem FI (d:Ev j e b g (.ref a)) (c:b a=some (.list l)) (k:l.length<fG) (f:Ev j e b D i) (h:js PG j ah e (b.set a (.list (l++[i]))) ag):js PG j (.cons (.ex (.fO g 0 (.cons D .nil))) ah) e b ag:=
 IY d c (.inl rfl) (iO f) (.app k h)
theorem vp (a:List Int->Nat×Int) (b:∀s,0<s.length->0<(a s).1):∀(f:Nat) (s:List Int),s.length<=f->iK a f s=iK a s.length s
 |0,s,h=>by
  have:s=[]:=gW.mp (by exact Nat.eq_zero_of_le_zero h)
  clear b h;subst this;rfl
 |f+1,[],_=>rfl
 |f+1,g::s,h=>by
  have d:=b (g::s) (fC _)
  have c:((g::s).drop (a (g::s)).1).length<=s.length:=by rw [eA,ff];exact j' (d7 d _)
  rw [ff] at h
  show (a (g::s)).2::iK a f _=(a (g::s)).2::iK a s.length _
  rw [vp a b f _ (by exact a_ c (gL h)),vp a b s.length _ c]
inductive pz (st:AS):List Nat->List Au->Prop where
 |nil:pz st [] []
 |cons {t:Nat} {A:Au} {ts:List Nat} {As:List Au} (h:ng st t A) (o:A.Ok) (r:pz st ts As):pz st (t::ts) (A::As)
variable {cN:List Au}
theorem pz.le (a:eC b p) (h:pz b C cN):pz p C cN:=by
 induction h with
 |nil=>exact .nil
 |cons h o _ c=>exact .cons (h.le a) o c
theorem pz.get (h:pz b C cN) {i:Nat} (e:C[i]? =some a):∃A,cN[i]? =some A/\ng b a A/\A.Ok:=by
 induction h generalizing i with
 |nil=>contradiction
 |cons h o _ c=>
  induction i using ja with
  |zero=>clear c;(injection e with e;subst e);exact gp _ rfl h o
  |succ i=>exact c e
theorem pz.len (h:pz b C cN):C.length=cN.length:=by
 induction h with
 |nil=>rfl
 |cons _ _ _ a=>exact congrArg rY a
theorem AW {d r:List v} (b:dq.map dA=d++dW::r):∃y,dq[d.length]? =some y/\dW=dA y:=by
 have:(dq.map dA)[d.length]? =some dW:=by rw [b];simp
 rw [ed] at this
 refine eS (fX.mp this) λy a e=>?_
 exact ei y a e.symm
theorem uS (H:6<=a) (I:b d=some (.list (C.map .ref))) (Q:pz b C cN) (G:b o=some (.list (a8.map .int))) (R:a8.length<=10000) (O:∀c,b.free c->n (.ref c) (b.set c (.list ((iK (fZ cN) a8.length a8).map .int)))):eF PG a (.fn 52) [.ref d,.ref o] b n:=by
 obtain ⟨a,rfl⟩:∃kn,a=kn+2:=oq (a -2) (by exact U2 H)
 refine gR [some (.ref d),some (.ref o),none,none,none,none,none] (by exact Qs H) rfl rfl ?_
 intro c hc
 refine g_ d3 ?_
 refine CL (λN (m:MM) i=>∃(p:Nat) (j:List Int) (w4 U w:Option AV),m=[some (.ref d),some (.ref o),some (.ref c),some (.int p),w4,U,w]/\i=b.set c (.list (j.map .int))/\p<=a8.length/\N=a8.length -p/\j.length<=p/\
  j++iK (fZ cN) (a8.length -p) (a8.drop p)=iK (fZ cN) a8.length a8)
  ⟨0,[],none,none,none,rfl,rfl,(fA _),rfl,(eK _),rfl⟩ ?_
 intro N m i kB K T;refine Dq kB λp j w4 U w kC kz M kx S z=>?_;subst kC;subst kz;subst kx
 have y:eC b (b.set c (.list (j.map .int))):=ki hc.1
 refine f_ (fW (a5 rfl) (jj (a5 rfl) (f' (y _ _ G))) (oe rfl)) _ ?_
 rw [bb]
 by_cases u:p<a8.length
 .rw [decide_eq_true (show (p:Int)<(a8.length:Int) by exact (λ{a m}=>ib.mpr) u),if_pos rfl]
  have V:0<(a8.drop p).length:=by rw [eA];exact Nat.zero_lt_sub_of_lt u
  have km:a8.drop p=a8[p]::a8.drop (p+1):=fR u
  have ky:j++(fZ cN (a8.drop p)).2::iK (fZ cN) (a8.length - (p+(fZ cN (a8.drop p)).1)) (a8.drop (p+(fZ cN (a8.drop p)).1))=iK (fZ cN) a8.length a8:=by
   refine iP (rd cN V) λD E=>?_
   rw [eA] at D
   rw [<-z,<-ip]
   obtain ⟨f,hf⟩:∃f,a8.length -p=f+1:=oq (a8.length -p -1) (by exact Ol (d:=0) (i5 u))
   rw [hf]
   have e1:iK (fZ cN) (f+1) (a8.drop p)=(fZ cN (a8.drop p)).2::iK (fZ cN) f ((a8.drop p).drop (fZ cN (a8.drop p)).1):=by rw [km];rfl
   have kl:((a8.drop p).drop (fZ cN (a8.drop p)).1).length=a8.length - (p+(fZ cN (a8.drop p)).1):=by rw [eA,eA];exact UU a8.length p (fZ cN (v7 p a8)).fst
   rw [e1,vp _ (λs hs=>(rd cN hs).2) f _ (by rw [kl];exact Xq E hf),kl]
  refine rf (g7 (iR (a5 rfl) d3)) rfl (by decide) (QL (a5 rfl) (gJ (y _ _ I) ?_))
  refine vm (λ(J:List AV) (m:MM) i=>b.set c (.list (j.map .int))=i/\∃(h:Nat×Int) (w:Option AV),m=[some (.ref d),some (.ref o),some (.ref c),some (.int p),some (.int (p+h.1:Nat)),some (.int h.2),w]/\oU (cN.drop J.length) (a8.drop p) h=oU cN (a8.drop p) (0,-1))
   (Dj rfl (0,-1) _ rfl rfl) ?_ ?_
  .intro J x l m P e kF K2 Y;refine Lv P m kF λh w r=>?_
   refine Lk x (AW e) λt ku=>?_
   refine gi (Q.get ku) λA Z kD kq=>?_
   refine tT (y _ _ I) _ rfl (ko (f_ (fW (a5 rfl) d3 (eq_int rfl))) (λg=>?_) λg=>?_)
   .have g:h.2= -1:=of_decide_eq_true g
    have kG:cN.drop J.length=A::cN.drop (J.length+1):=by
     obtain ⟨L,W⟩:=ey.mp Z
     rw [fR L,W]
    rw [kG,uR,if_pos g] at r
    refine rf (l:=[.int (p+(j8 A (a8.drop p)).1:Nat),.int (j8 A (a8.drop p)).2]) (λn O=>g8 d3 (vH (a5 rfl) (a5 rfl) (a5 rfl)) (xC (by exact eY H) (kD.le y) kq (y _ _ G) (by exact a_ R (by decide)) M (by rw [CO];exact O))) rfl (by decide) ?_
    exact Y _ _ (Dj rfl (j8 A (a8.drop p)) _ rfl (by rw [bh];exact r))
   .have g:h.2≠-1:=of_decide_eq_false g
    refine Y _ _ (Dj rfl h _ rfl ?_)
    rw [bh]
    obtain ⟨L,W⟩:=ey.mp Z
    rw [fR L,uR,if_neg g] at r
    exact r
  .intro m P kI;refine Lv P m kI λh w r=>?_
   rw [bb,Q.len,ox] at r
   have r:h=oU cN (a8.drop p) (0,-1):=r
   have X:∀(q:Nat×Int) (w:Option AV),q=fZ cN (a8.drop p)->js PG (eF PG (a+1)) (.cons (.ex (.fO (.var 2) 0 (.cons (.var 5) .nil))) (.cons (.asg 3 (.var 4)) .nil)) [some (.ref d),some (.ref o),some (.ref c),some (.int p),some (.int (p+q.1:Nat)),some (.int q.2),w] (b.set c (.list (j.map .int)))
    (λB m i=>match B with
     | .next=>K m i
     | .brk=>Nx (eF PG (a+1)) (.cons (.ret (.var 2)) .nil) (λB _ i=>∃F,eC F i/\n (y_ B) F) .next m i
     | .ret v=>Nx (eF PG (a+1)) (.cons (.ret (.var 2)) .nil) (λB _ i=>∃F,eC F i/\n (y_ B) F) (.ret v) m i):=by
    intro q w kH;subst kH
    refine iP (rd cN V) λD E=>?_
    rw [eA] at D
    refine FI (a5 rfl) (gZ _ _ _) (by rw [bb];unfold fG;exact c_ S (ej u (a_ R (by decide)))) (a5 rfl) (g_ (a5 rfl) ?_)
    refine T _ _ _ ?_ ⟨(p+(fZ cN (a8.drop p)).1),(j++[(fZ cN (a8.drop p)).2]),_,_,_,rfl,?_,(by exact Xr D E),rfl,?_,?_⟩
    .exact Xs D E
    .rw [Oj,b_];rfl
    .rw [bh];show j.length+1<=_;exact fQ S E
    .rw [eE];exact ky
   refine ⟨y _ _ I,ko (f_ (fW (a5 rfl) d3 (eq_int rfl))) (λg=>?_) λg=>?_⟩
   .have g:h.2= -1:=of_decide_eq_true g
    have kK:(a8.map AV.int)[p]? =some (.int a8[p]):=by rw [ed,dj u];rfl
    refine rf (g7 (iR (ie (a5 rfl) d3 rfl) (fy (a5 rfl) (y _ _ G) (a5 rfl) kK))) rfl (by decide) ?_
    refine X (1,a8[p]) _ ?_
    unfold fZ
    rw [<-r,if_pos g,km];rfl
   .have g:h.2≠-1:=of_decide_eq_false g
    refine X h _ ?_
    unfold fZ
    rw [<-r,if_neg g]
 .rw [decide_eq_false (show ¬(p:Int)<(a8.length:Int) by exact λq=>u (ib.mp q)),if_neg gO]
  have kJ:p=a8.length:=by exact iw M (mS u)
  clear I Q G R H M T S y u;subst kJ
  rw [jE] at z
  have z:j++[]=_:=z
  rw [eT] at z
  subst z
  show js PG _ (w_.cons (CS.ret (CE.var 2)) w_.nil) _ _ _
  exact iS (a5 rfl) (ei _ (ee _) (O c hc))
theorem AS.RN (d:eC b p):eC (b.set a av) (p.set a av):=λx f e=>by
 by_cases c:x=a
 .subst c;rw [gZ] at e⊢;exact e
 .rw [gu c] at e⊢;exact d x f e
theorem B2 (f:7<=d) (i:ng b a t) (g:t.Ok) (h:b o=some (.list (a8.map .int))) (l:a8.length<=10000) (m:∀c,b.free c->n (.ref c) (b.set c (.list ((iK (fZ [t]) a8.length a8).map .int)))):eF PG d (.fn 53) [.ref a,.ref o] b n:=by
 obtain ⟨d,rfl⟩:∃k,d=k+1:=oq (d -1) (by exact Ol f)
 refine gR [some (.ref a),some (.ref o)] (by exact Qs f) rfl rfl (ei _ rfl (λc q=>⟨_,rfl,?_⟩))
 have e:eC b (b.set c (.list [.ref a])):=ki q.1
 exact uS (C:=[a]) (cN:=[t]) (by exact eY f) (gZ _ _ _) (.cons (i.le e) g .nil) (e _ _ h) l λp j=>ei _ (AS.RN e) (m p (AS.Hd e j))
inductive zl (st:AS) (a:Nat) (s:List (Int×Nat)):Prop where
 |mk (dx d:Nat) (h0:st a=some (.inst 0 dx [(33,.ref d)])) (h1:st d=some (.dict (dV s))):zl st a s
theorem zl.le (h:zl b a aD) (c:eC b p):zl p a aD:=let ⟨g,d,e,f⟩:=h;⟨g,d,c _ _ e,c _ _ f⟩
theorem sh (g:3<=d) (h:zl b a aD) (c:n (.int (((aD.lookup q).getD 0:Nat))) b):eF PG d (.fn 2) [.ref a,.int q] b n:=by
 obtain ⟨d,rfl⟩:∃k,d=k+1:=oq (d -1) (by exact Ol g)
 obtain ⟨j,l,i,f⟩:=h
 refine gR [some (.ref a),some (.int q)] (by exact eY g) rfl rfl (DU (eP (a5 rfl) i rfl) f (.inl rfl) (iR (a5 rfl) d3 _ ?_))
 refine ei _ f (.Ha (nS _) ?_)
 induction e:aD.lookup q using d_ with
 |some t=>
  rw [e] at c
  exact .inl (Dk _ (rP e) b (ee _) c)
 |none=>
  rw [e] at c
  exact .inr (tT (DV e) b (ee _) c)
theorem AX (h:VE PG j g e b λv b=>ag (.ret v) e b):js PG j (.cons (.ret g) ah) e b ag:=h
theorem QM (a:Ev j e b g i) (h:VE PG j D e b λw b=>pR b (λr=>n (.bool r) b) bE i w):VE PG j (.cmp g bE D) e b n:=a _ h
noncomputable def jJ (A:Au):Nat->List Int->Bool
 |k,[]=>!(A.at k).isEmpty
 |k,g::r=>match A.step k g with
  |none=>false
  |some t=>jJ A t r
structure Uo (st:AS) (f dx t l:Nat) (A:Au) (held:List Int):Prop where
 obj:st f=some (.inst 7 dx [(56,.ref t),(57,.ref l)])
 list:st l=some (.list (held.map .int))
 au:ng st t A
 ok:A.Ok
theorem DX (q:5<=a) (h:Uo b d o I ak t a8) (j:n (.bool (jJ t 0 a8)) b):eF PG a (.fn 55) [.ref d] b n:=by
 obtain ⟨a,rfl⟩:∃k,a=k+1:=oq (a -1) (by exact Ol q)
 refine gR [some (.ref d),none,none] (by exact Qs q) rfl rfl (g_ d3 (QL (eP (a5 rfl) h.obj rfl) (gJ h.list ?_)))
 obtain ⟨Q,N,O,P,p⟩:=id h.au
 refine vm (λ(v:List AV) (m:MM) H=>b=H/\∃(k:Nat) (w:Option AV),m=[some (.ref d),some (.int k),w]/\k<t.steps.length/\jJ t k (a8.drop v.length)=jJ t 0 a8) (n0 rfl 0 none rfl h.ok.pos rfl) ?_ ?_
 .intro v x r m _ e A K G;refine Dp A λs k w z u f=>?_;clear A;subst s;subst z
  refine Lk x (AW e) λg E=>?_
  obtain ⟨D,L⟩:=ey.mp E
  rw [fR D,L] at f
  refine tT h.list _ rfl (g_ (λn j=>ju (eP (a5 rfl) h.obj rfl) p.obj rfl rfl rfl (iR (a5 rfl) (a5 rfl)) (yz (by exact Qs q) h.au u j)) ?_)
  refine ko (f_ (fW (a5 rfl) d3 (eq_int rfl))) (λl=>?_) λl=>?_
  .have y:t.step k g=none:=by
    induction i:t.step k g using d_ with
    |none=>rfl
    |some I=>
     rw [i] at l
     have:((I:Nat):Int)= -1:=of_decide_eq_true l
     exact (JD this.symm).elim
   have f:jJ t 0 a8=false:=by
    rw [<-f]
    show (match t.step k g with |none=>false |some I=>jJ t I _)=false
    rw [y]
   rw [f] at j
   exact iS d3 (ei _ (ee _) j)
  .induction i:t.step k g using d_ with
   |none=>rw [i] at l;exact absurd l (by decide)
   |some J=>
    refine G _ _ (n0 rfl J _ rfl (oh h.ok i) ?_)
    rw [bh,<-f]
    show _=(match t.step k g with |none=>false |some I=>jJ t I _)
    rw [i];rfl
 .intro m _ B;refine Dp B λs k w z u f=>?_;clear q B;subst s;subst z
  rw [bb,ox] at f
  refine eS (p.dict u) λv F y=>?_
  refine ⟨h.list,?_⟩
  refine AX (QM (fy (eP (eP (a5 rfl) h.obj rfl) p.obj rfl) p.steps (a5 rfl) F) ?_)
  refine gp [] rfl eH (λc i=>?_)
  have C:eC b (b.set c (.dict [])):=ki i.1
  refine .ne (.Im (C _ _ y) (nS _) (gZ _ _ _)) (ei b C ?_)
  have f:(!(t.at k).isEmpty)=jJ t 0 a8:=f
  rw [<-f] at j
  have M:(dV (t.at k)).isEmpty=(t.at k).isEmpty:=by unfold dV;exact List.isEmpty_map ..
  show n (.bool (!(dV (t.at k)).isEmpty)) b
  rw [M];exact j
theorem AY:cut l (.int a) .none=some (l.drop a):=if_pos (c:=(0:Int)<=(a:Int)) (e:=none) (gF a)
theorem HH:cut l .none (.int a)=some (l.take a):=if_pos (c:=(0:Int)<=(a:Int)) (e:=none) (gF a)
theorem IZ:cut l (.int a) (.int d)=some ((l.take d).drop a):=if_pos (c:=(0:Int)<=(a:Int)/\(0:Int)<=(d:Int)) (e:=none) ⟨gF a,gF d⟩
theorem MX (k:Ev j e b g (.ref a)) (f:b a=some (.list l)) (i:Ev j e b D (.int d)) (h:∀c,b.free c->n (.ref c) (b.set c (.list (l.drop d)))):VE PG j (.t_ g D (.cst .none)) e b n:=k _ (i _ (.list f AY h))
theorem I1 (f:Ev j e b g (.ref d)) (c:b d=some (.inst o I aT)) (h:js PG j ah e (b.set d (.inst o I (iB aT a i))) ag):
 VE PG j g e b (λk b=>xb b (λd o I aT=>Nx j ah ag .next e (b.set d (.inst o I (iB aT a i)))) k):=f _ (.mk c h)
theorem qP (A:Au) (s:List Int):fZ [A] s=if (j8 A s).2= -1 then (1,s.headD 0) else j8 A s:=rfl
theorem FJ (i:6<=a) (h:Uo b d o I ak t a8) (y:0<a8.length) (m:a8.length<=10000) (f:∀c,b.free c->n (.int (fZ [t] a8).2) ((b.set c (.list ((a8.drop (fZ [t] a8).1).map .int))).set d (.inst 7 o [(56,.ref I),(57,.ref c)]))):eF PG a (.fn 56) [.ref d] b n:=by
 obtain ⟨a,rfl⟩:∃u,a=u+1:=oq (a -1) (by exact Ol i)
 have j:∀(q:Nat×Int),q=fZ [t] a8->js PG (eF PG a) (.cons (.iE (.var 0) 57 (.t_ (.attr (.var 0) 57) (.var 1) (.cst .none))) (.cons (.ret (.var 2)) .nil)) [some (.ref d),some (.int q.1),some (.int q.2)] b (λw _ v=>∃l,eC l v/\n (y_ w) l):=by
  intro q x;subst x
  refine MX (eP (a5 rfl) h.obj rfl) h.list (a5 rfl) λc p=>?_
  refine I1 (a5 rfl) (by rw [gu (p.ne h.obj)];exact h.obj) (iS (a5 rfl) (ei _ (ee _) ?_))
  rw [<-oX]
  exact f c p
 refine gR [some (.ref d),none,none] (by exact Qs i) rfl rfl ?_
 refine rf (l:=[.int (j8 t a8).1,.int (j8 t a8).2]) (λn f=>g8 d3 (vH (eP (a5 rfl) h.obj rfl) (eP (a5 rfl) h.obj rfl) d3) (xC (by exact eY i) h.au h.ok h.list (by exact a_ m (by decide)) (I:=0) (fA _) f)) rfl (by decide) ?_
 refine ko (f_ (fW (a5 rfl) d3 (eq_int rfl))) (λe=>?_) λe=>?_
 .have e:(j8 t a8).2= -1:=of_decide_eq_true e
  have s:(a8.map AV.int)[0]? =some (.int a8[0]):=by rw [ed,dj y];rfl
  refine rf (g7 (iR d3 (fy (d:=0) (eP (a5 rfl) h.obj rfl) h.list d3 s))) rfl (by decide) (j (1,a8[0]) ?_)
  rw [qP,if_pos e]
  clear h m f i j e s;clear e;induction a8 using el with
  |nil=>contradiction
  |cons g r=>rfl
 .have e:(j8 t a8).2≠-1:=of_decide_eq_false e
  exact j (j8 t a8) (by rw [qP,if_neg e])
noncomputable def Al (X:zU) (m:MM) (st:AS) (e:CE) (P:AV->AS->Prop):Prop:=∀Q:AV->AS->Prop,(∀v st',eC st st'->P v st'->Q v st')->VE PG X e m st Q
noncomputable def Cl (X:zU) (f:AV) (vs:List AV) (st:AS) (P:AV->AS->Prop):Prop:=∀Q:AV->AS->Prop,(∀v st',eC st st'->P v st'->Q v st')->X f vs st Q
noncomputable def At (X:zU) (m:MM) (st:AS) (e:CE) (b:Bool):Prop:=∀Q:Bool->AS->Prop,(∀st',eC st st'->Q b st')->VT PG X e (VE PG X e) m st Q
structure rh (st st':AS) (c:Nat) (o:AO):Prop where
 le:eC st st'
 at_:st' c=some o
 fr:st c=none
structure Upd (st st':AS) (a:Nat) (o:AO):Prop where
 at_:st' a=some o
 ne:∀b,b≠a->st' b=st b
structure iT (s0 st:AS) (c:Nat) (o:AO):Prop where
 at_:st c=some o
 fr:s0 c=none
theorem fM (h:b.free a):rh b (b.set a av) a av:=⟨ki h.1,gZ _ _ _,h.1⟩
theorem pA:Upd b (b.set a av) a av:=⟨gZ _ _ _,λ_ h=>gu h⟩
theorem Upd.le (h:Upd b ax a av) (c:eC p b) (d:p a=none):eC p ax:=λx f e=>by
 rw [h.ne x λq=>by rw [q,d] at e;contradiction];exact c x f e
theorem rh.ne (h:rh b p a av) (c:b d=some bF):d≠a:=λq=>by rw [q,h.fr] at c;contradiction
theorem rh.own {s0:AS} (h:rh b p a av) (c:eC s0 b):iT s0 p a av:=⟨h.at_,jH c h.fr⟩
theorem iT.ne (h:iT p b a av) (c:p d=some bF):d≠a:=λq=>by rw [q,h.fr] at c;contradiction
theorem iT.le (h:iT p b a av) (c:eC b ax):iT p ax a av:=⟨c _ _ h.at_,h.fr⟩
theorem iT.keep (h:iT p b a av) (u:Upd b ax d bF) (c:a≠d):iT p ax a av:=⟨(u.ne a c).trans h.at_,h.fr⟩
theorem Upd.own {s0:AS} (u:Upd b p a av) (h:s0 a=none):iT s0 p a av:=⟨u.at_,h⟩
theorem SF (h:eC b p) (a:eC p ax):eC b ax:=b4 h a
theorem jK (h:Ev j e b g i) (c:n i b):Al j e b g n:=λQ a=>h _ (a _ _ (ee _) c)
variable {bw:AV->AS->Prop}
theorem qq (h:Al j e b g n) (f:∀v a,eC b a->n v a->bw v a):Al j e b g bw:=λQ d=>h _ λv a c q=>d v a c (f v a c q)
theorem gz (c:Ev j e b g i) (a:HG j e b aq l) (h:Cl j i l b n):Al j e b (.call g aq) n:=λQ d=>c _ (a _ (h Q d))
theorem xD (k:Al j e b g bw) (h:∀v a,eC b a->bw v a->Cl j i [v] a n):Al j e b (.call (.cst i) (.cons g .nil)) n:=
 λQ o=>k _ λv m c d=>h v m c d Q λw l p f=>o w l (b4 c p) f
theorem Wa (f:HG j e b aq l) (h:∀c d,rh b d c (.list l)->n (.ref c) d):Al j e b (.lst aq) n:=λQ g=>f _ λc a=>g _ _ (ki a.1) (h c _ (fM a))
theorem Up (h:∀c d,rh b d c (.dict [])->n (.ref c) d):Al j e b (.dict .nil) n:=λQ f=>gp [] rfl eH (λc a=>f _ _ (ki a.1) (h c _ (fM a)))
theorem pB (h:Tv j e b g aw):At j e b g aw:=λQ a=>h _ (a _ (ee _))
theorem wu (h:Al j e b (.cmp g bE D) λv _=>v= .bool aw):At j e b (.cmp g bE D) aw:=λQ c=>h _ λv d a f=>by subst f;exact ei _ (.bool _) (c d a)
theorem rQ (h:Al j e b (.call g aq) λv _=>v= .bool aw):At j e b (.call g aq) aw:=λQ c=>h _ λv d a f=>by subst f;exact ei _ (.bool _) (c d a)
theorem MY (h:Al j e b (.fO g a aq) λv _=>v= .bool aw):At j e b (.fO g a aq) aw:=λQ d=>h _ λv f c i=>by subst i;exact ei _ (.bool _) (d f c)
theorem yA (h:At j e b g aw):At j e b (.not g) (!aw):=λQ a=>h _ a
theorem DY (h:At j e b g aw) (f:aw=true->∀d,eC b d->At j e d D bO):At j e b (.and g D) (aw&&bO):=λQ c=>h _ λk a=>by
 clear h;induction aw with
 |true=>exact f rfl k a _ λi l=>c i (b4 a l)
 |false=>exact c _ a
theorem FK (h:At j e b g aw) (f:aw=false->∀d,eC b d->At j e d D bO):At j e b (.or g D) (aw||bO):=λQ c=>h _ λk a=>by
 clear h;induction aw with
 |false=>exact f rfl k a _ λi l=>c i (b4 a l)
 |true=>exact c _ a
theorem AZ (l:Al j e b g bw) (f:∀v a,eC b a->bw v a->Al j e a D λw c=>∀Q:Bool->Prop,(∀r,n (.bool r) c->Q r)->pR c Q bE v w):Al j e b (.cmp g bE D) n:=
 λQ m=>l _ λv a d h=>f v a d h _ λw c o i=>i _ λr k=>m _ _ (b4 d o) k
theorem jQ (m:MM) (e:3<=a) (f:PG.fns[d]? =some dg) (g:bindArgs dg l=some m) (h:∀d,a=d+1->∀R:Fl->MM->AS->Prop,(∀v m c,eC b c->n v c->R (.ret v) m c)->js PG (eF PG d) dg.body m b R):Cl (eF PG a) (.fn d) l b n:=λQ k=>by
 obtain ⟨a,rfl⟩:∃d,a=d+1:=oq (a -1) (by exact Ol e)
 exact gR m (by exact eY e) f g (h a rfl _ λv m c j i=>(ei c (ee _) (k v c j i)))
theorem uT (h:Cl j i l b n) (e:∀v a,eC b a->n v a->bw v a):Cl j i l b bw:=λQ d=>h _ λv a c q=>d v a c (e v a c q)
theorem yB (d:Al j e b g n) (h:∀v c,eC b c->n v c->js PG j ah (e.set a (some v)) c ag):js PG j (.cons (.asg a g) ah) e b ag:=d _ h
theorem sJ (f:HG j e b aq l) (h:∀c d,rh b d c (.list l)->js PG j ah (e.set a (some (.ref c))) d ag):js PG j (.cons (.asg a (.lst aq)) ah) e b ag:=f _ λc g=>h c _ (fM g)
theorem zm (h:∀c d,rh b d c (.dict [])->js PG j ah (e.set a (some (.ref c))) d ag):js PG j (.cons (.asg a (.dict .nil)) ah) e b ag:=gp [] rfl eH (λc f=>h c _ (fM f))
theorem si (c:Al j e b g n) (h:∀v a,eC b a->n v a->ag (.ret v) e a):js PG j (.cons (.ret g) ah) e b ag:=c _ h
theorem pK {d:w_} (f:At j e b g aw) (h:∀a,eC b a->(aw=true->js PG j bg e a (Nx j ah ag))/\(aw=false->js PG j d e a (Nx j ah ag))):js PG j (.cons (.iff g bg d) ah) e b ag:=f _ λa c=>by
 clear f;induction aw with
 |true=>exact (h a c).1 rfl
 |false=>exact (h a c).2 rfl
theorem s_end (h:js PG j ah e b ag):js PG j .nil e b (Nx j ah ag):=h
theorem qE (f:Ev j e b g (.ref a)) (d:b a=some (.list l)) (m:l.length<fG) (k:Ev j e b D i) (h:∀c,Upd b c a (.list (l++[i]))->js PG j ah e c ag):js PG j (.cons (.ex (.fO g 0 (.cons D .nil))) ah) e b ag:=
 FI f d m k (h _ pA)
noncomputable def Lp (X:zU) (r:w_) (T:Fl->MM->AS->Prop) (K:MM->AS->Prop):Fl->MM->AS->Prop:=λfl m st=>match fl with | .next=>K m st | .brk=>js PG X r m st T | .ret v=>T (.ret v) m st
noncomputable def MZ (X:zU) (tgt:List Nat) (b r:w_) (T:Fl->MM->AS->Prop) (m:MM) (v:AV) (st:AS):Prop:=
 om st (λit xs=>xs.foldr (λx k m st=>it.ok st/\∃m',jI tgt x m=some m'/\js PG X b m' st (Lp X r T k)) (λm st=>it.ok st/\js PG X r m st T) m st) v
theorem rj (c:Al j e b g n) (h:∀v a,eC b a->n v a->MZ j C bg ah ag e v a):js PG j (.cons (.kj C g bg) ah) e b ag:=c _ h
theorem oV (a:Ev j e b g i) (h:MZ j C bg ah ag e i b):js PG j (.cons (.kj C g bg) ah) e b ag:=a _ h
theorem iL (k:It) (l:List h) (f:h->AV) (s:∀Q:It->List AV->Prop,Q k (l.map f)->om b Q i) (I:List h->MM->AS->Prop) (v:I [] e b) (n:∀d e a,I d e a->k.ok a) (q:∀d y g e a,l=d++y::g->I d e a->∀K:MM->AS->Prop,(∀o m,I (d++[y]) o m->K o m)->∃p,jI C (f y) e=some p/\js PG j bg p a (Lp j ah ag K)) (u:∀e a,I l e a->js PG j ah e a ag):MZ j C bg ah ag e i b:=s _ (by
 rw [Ca]
 refine vm I v (λd x g e a t c K r=>⟨n _ _ _ c,?_⟩) λe a c=>⟨n _ _ _ c,u e a c⟩
 exact q d x g e a t c K r)
theorem oQ (N:Nat) (I:Nat->MM->AS->Prop) (m:I N e b) (f:∀N e c,I N e c->∀K:MM->AS->Prop,(∀d k l,d<N->I d k l->K k l)->∃t,At j e c g t/\∀a,eC c a->(t=true->js PG j bg e a (Lp j ah ag K))/\(t=false->js PG j ah e a ag)):
 js PG j (.cons (.EY g bg) ah) e b ag:=CL I m λN e c i K n=>by
 refine eS (f N e c i K n) λt p h=>?_
 refine p _ λa o=>?_
 clear m f i n p;induction t with
 |true=>exact (h a o).1 rfl
 |false=>exact (h a o).2 rfl
noncomputable def FL (X:zU) (elt:CE) (tgt:List Nat) (conds:wL) (rest:Gens) (mc:MM) (Q:AV->AS->Prop) (v:AV) (st:AS):Prop:=
 om st (λit xs=>xs.foldr (λx k acc st=>it.ok st/\∃m',jI tgt x mc=some m'/\LA PG X conds m' st λt st=>if t then VG PG X (VE PG X elt) rest m' acc st k else k acc st)
  (λacc st=>it.ok st/\∀c,st.free c->Q (.ref c) (st.set c (.list acc))) [] st) v
variable {bz:List (Option Nat)}
theorem RP (f:Al j e b D bw) (h:∀v a,eC b a->bw v a->FL j g C aq bD (bz.map λc=>c.bind λd=>(e[d]?).join) n v a):
 VE PG j (.comp bz g C D aq bD) e b n:=f _ h
theorem DZ (d:Ev j e b D i) (h:FL j g C aq bD (bz.map λc=>c.bind λa=>(e[a]?).join) n i b):
 VE PG j (.comp bz g C D aq bD) e b n:=d _ h
theorem tx (s:It) (l:List h) (f:h->AV) (B:∀n:It->List AV->Prop,n s (l.map f)->om b n i) (I:List h->List AV->AS->Prop) (F:I [] [] b) (v:∀d k a,I d k a->s.ok a) (z:∀d y p k a,l=d++y::p->I d k a->∀K:List AV->AS->Prop,(∀r u,I (d++[y]) r u->K r u)->∃q,jI C (f y) e=some q/\LA PG j aq q a λt b=>if t then VG PG j (VE PG j g) bD q k b K else K k b) (E:∀k a w c,I l k a->rh a w c (.list k)->n (.ref c) w):FL j g C aq bD e n i b:=B _ (by
 rw [Ca]
 refine vm I F (λd x p m a D o K A=>⟨v _ _ _ o,?_⟩) λm a o=>⟨v _ _ _ o,λc G=>E m a _ c o (fM G)⟩
 exact z d x p m a D o K A)
noncomputable def Uq (X:zU) (m:MM) (st:AS) (es:wL) (b:Bool):Prop:=∀Q:Bool->AS->Prop,(∀st',eC st st'->Q b st')->LA PG X es m st Q
theorem xE:Uq j e b .nil true:=λQ a=>a _ (ee _)
theorem tA (h:At j e b g aw):Uq j e b (.cons g .nil) aw:=λQ c=>h _ λd a=>by
 clear h;induction aw with
 |true=>exact c _ a
 |false=>exact c _ a
noncomputable abbrev gQ (st:AS) (xs:List AV):AV->AS->Prop:=λv st'=>∃c,v= .ref c/\iT st st' c (.list xs)
theorem tB (p:h->Bool) (s:h->AV) (l:List h) (f:h->AV) (M:l.length<=fG) (W:Al j e b D n) (O:∀v k,eC b k->n v k->∃r:It,(∀i,eC k i->r.ok i)/\∀Q:It->List AV->Prop,Q r (l.map f)->om k Q v) (G:∀y∈l,∀a,eC b a->∃o,jI C (f y) (bz.map λc=>c.bind λI=>(e[I]?).join)=some o/\Uq j o a aq (p y)/\(p y=true->∀i,eC a i->Al j o i g λv _=>v=s y)):
 Al j e b (.comp bz g C D aq .nil) (gQ b ((l.filter p).map s)):=λQ N=>by
 refine RP W λv k w t=>?_
 refine eS (O v k w t) λr H L=>?_
 refine tx r l f L (λd q a=>eC k a/\q=(d.filter p).map s) ⟨ee _,rfl⟩ (λd q a Z=>H _ Z.1) ?_ ?_
 .intro d y T q a A S K z;refine Vu q S λm=>?_
  refine gi (G y (by rw [A];simp) a (b4 w m)) λo U Y J=>?_
  refine ei o U (Y _ λi x=>?_)
  have X:((d.filter p).map s).length<fG:=by
   rw [bb]
   have F:=G2 p d
   have R:l.length=d.length+(T.length+1):=by rw [A,bh,ff]
   exact c_ F (ej (U3 R) M)
  induction u:p y with
  |true=>
   refine J u i x _ λv kl P t=>?_
   subst t
   exact ⟨X,z _ _ ⟨b4 m (b4 x P),by rw [x5,b_,mL u];rfl⟩⟩
  |false=>exact z _ _ ⟨b4 m x,by rw [x5,mM (by rw [u];exact gO)];simp⟩
 .intro q a i c V B;obtain ⟨m,rfl⟩:=V
  have E:=b4 w m
  exact N _ _ (b4 E B.le) (ei c rfl (B.own E))
variable {dE:h->AV}
theorem uU (p:h->Bool) (i:h->AV) (q:dq.length<=fG) (u:Ev j e b D (.ref a)) (m:b a=some (.list (dq.map dE))) (n:∀y∈dq,∀f,eC b f->∃k,jI C (dE y) (bz.map λc=>c.bind λo=>(e[o]?).join)=some k/\Uq j k f aq (p y)/\(p y=true->∀d,eC f d->Al j k d g λv _=>v=i y)):
 Al j e b (.comp bz g C D aq .nil) (gQ b ((dq.filter p).map i)):=
 tB p i dq dE q (n:=λv s=>v= .ref a) (jK u rfl) (λv w l r=>by subst r;exact (ei (.list a _) (λd t=>t _ _ (l _ _ m)) (λQ=>gJ (l _ _ m)))) n
theorem tC (l:h->AV) (q:dq.length<=fG) (t:Ev j e b D (.ref a)) (r:b a=some (.list (dq.map dE))) (i:∀y∈dq,∀d,eC b d->∃m,jI C (dE y) (bz.map λc=>c.bind λo=>(e[o]?).join)=some m/\Al j m d g λv _=>v=l y):
 Al j e b (.comp bz g C D .nil .nil) (gQ b (dq.map l)):=by
 have:=uU (C:=C) (g:=g) (aq:=.nil) (bz:=bz) (λ_=>true) l q t r λy k d f=>gp (i y k d f).choose (i y k d f).choose_spec.1 xE (λ_ p s=>?_)
 .rwa [jz.mpr λ_ _=>rfl] at this
 .refine eS (i y k p (b4 f s)) λm n u=>?_
  rw [(i y k d f).choose_spec.1] at n
  cases d5 n;exact u
theorem FN (p:h->Bool) (f:h->AV) (n:dq.length<=fG) (r:Al j e b D (gQ b (dq.map dE))) (l:∀y∈dq,∀d,eC b d->∃i,jI C (dE y) (bz.map λc=>c.bind λm=>(e[m]?).join)=some i/\Uq j i d aq (p y)/\(p y=true->∀a,eC d a->Al j i a g λv _=>v=f y)):
 Al j e b (.comp bz g C D aq .nil) (gQ b ((dq.filter p).map f)):=
 tB p f dq dE n r (λv t s o=>by refine jo v o λc k=>?_;exact (ei (.list c _) (λa q=>q _ _ k.at_) (λQ=>gJ k.at_))) l
theorem xF (k:h->AV) (r:dq.length<=fG) (p:Al j e b D (gQ b (dq.map dE))) (f:∀y∈dq,∀a,eC b a->∃l,jI C (dE y) (bz.map λc=>c.bind λo=>(e[o]?).join)=some l/\Al j l a g λv _=>v=k y):
 Al j e b (.comp bz g C D .nil .nil) (gQ b (dq.map k)):=by
 have:=FN (C:=C) (g:=g) (aq:=.nil) (bz:=bz) (λ_=>true) k r p λy i a d=>gp (f y i a d).choose (f y i a d).choose_spec.1 xE (λ_ q n=>?_)
 .rwa [jz.mpr λ_ _=>rfl] at this
 .refine eS (f y i q (b4 d n)) λl m s=>?_
  rw [(f y i a d).choose_spec.1] at m
  cases d5 m;exact s
theorem I2 (c:Ev j e b g i) (a:Al j e b D λx _=>x=af):Al j e b (.tup (.cons g (.cons D .nil))) λx _=>x= .tup [i,af]:=λQ f=>c _ (a _ λx k d h=>by clear c a;subst h;exact f _ _ d rfl)
noncomputable def jv (w lead:hJ):Bool:=decide (w.take lead.length=lead)
noncomputable def kA:List Row->List Row->List Row
 |f,[]=>f
 |f,r::rs=>kA (if f.any (λq=>jv r.1 q.1) then f else f++[r]) rs
noncomputable def live (rs:List Row):List Row:=kA [] rs
theorem SG (f:List Row) (r:Row):kA f [r]=if f.any (λq=>jv r.1 q.1) then f else f++[r]:=rfl
theorem FO:∀(d:List Row) (f r:List Row),kA f (d++r)=kA (kA f d) r:=by
 intro b
 induction b with
 |nil=>
  intro _ _
  exact rfl
 |cons x d a=>
  intro f r
  exact a _ r
theorem o7 (d:List Row) (r:Row):live (d++[r])=if (live d).any (λq=>jv r.1 q.1) then live d else live d++[r]:=FO d [] [r]
theorem xG:∀(d f:List Row),(kA f d).Sublist (f++d):=by
 intro b
 induction b with
 |nil=>
  intro f
  rw [eT];exact .refl _
 |cons x d a=>
  intro f
  refine (a _).trans ?_
  split
  .exact .append_left (List.sublist_cons_self _ _) _
  .rw [eE];exact .refl _
theorem xH (d:List Row):(live d).length<=d.length:=(xG d []).length_le
variable {ay:hJ}
theorem rn (c:Ev j e b g (tI ay)) (f:Ev j e b D (.int a)):Ev j e b (.t_ g (.cst .none) D) (tI (ay.take a)):=λQ d=>c _ (f _ (.tup HH (qj▸d)))
theorem A0 (c:Ev j e b g (tI ay)) (f:Ev j e b D (.int a)):Ev j e b (.t_ g D (.cst .none)) (tI (ay.drop a)):=λQ d=>c _ (f _ (.tup AY (oX▸d)))
theorem pC (c:Ev (eF PG (a+1)) e b g (tI ay)):Ev (eF PG (a+1)) e b (.call (.cst (.bi 0)) (.cons g .nil)) (.int ay.length):=by
 have:=jj c (l:=ay.map .int) (λ_ h=>.tup h)
 rwa [bb] at this
variable {bT:hJ}
theorem A3 (a:Ev j e b g (tI ay)) (c:Ev j e b D (tI bT)):Ev j e b (.cmp g .eq D) (.bool (decide (ay=bT))):=fW a c λQ d=>.eq MS d
theorem M0 (a:Ev j e b g (tI ay)) (c:Ev j e b D (tI bT)):Ev j e b (.cmp g .ne D) (.bool (!decide (ay=bT))):=fW a c λQ d=>.ne MS d
theorem FP (d:n (.bool (jv ay bT)) b):Cl (eF PG (a+3)) (.fn 32) [tI ay,tI bT] b n:=
 jQ [some (tI ay),some (tI bT)] (df _ _) rfl rfl λk c R e=>by
  (injection c with c;subst c)
  exact iS (A3 (rn (a5 rfl) (pC (a5 rfl))) (a5 rfl)) (e _ _ _ (ee _) d)
theorem Ur (r:Row):ig r= .tup [tI r.1,.int r.2]:=rfl
theorem M7 (p:Al j e b g (gQ b l)) (o:∀x∈l,Plain x) (m:∀f,eC b f->n (.bool (decide (l=[]))) f):Al j e b (.cmp g .eq (.lst .nil)) n:=
 AZ p λv t q i=>by
  refine jo v i λc s=>?_
  exact λQ r d a=>r _ _ (ki a.1) λu k=>.eq (.list ((fM a).le _ _ s.at_) (fM a).at_ o (λ_ h=>absurd h eg) _ decide_eq_true_iff) (k _ (m _ (b4 q (fM a).le)))
variable {a7:List Row}
theorem CP (z:b d=some (.list (a7.map ig))) (B:a7.length<=fG):Cl (eF PG (a+4)) (.fn 33) [.ref d] b (gQ b ((live a7).map ig)):=
 jQ [some (.ref d),none,none,none] (df _ _) rfl rfl λk p R C=>by
  (injection p with p;subst p)
  refine sJ gS λc I s=>?_
  refine oV (a5 rfl) (iL (.list d _) a7 ig (λQ=>gJ (s.le _ _ z)) (λg m i=>eC b i/\iT b i c (.list ((live g).map ig))/\∃o u,m=[some (.ref d),some (.ref c),o,u]) (qV s.le (s.own (ee _)) _ _ rfl) (λg m i h=>h.1 _ _ z) ?_ ?_)
  .intro g r L m i e E K w;refine r6 m E λn f o u=>?_
   refine ei [some (.ref d),some (.ref c),some (tI r.1),some (.int r.2)] rfl ?_
   have y:(live g).length<fG:=c_ (xH g) (ej (by rw [e,bh,ff];exact gm (fC _)) B)
   refine pK (aw:=!(live g).any (λq=>jv r.1 q.1)) (wu (M7 (uU (λq:Row=>jv r.1 q.1) (λq=>tI q.1) (eB y) (a5 rfl) f.at_ λq _ D J=>
    (gp [none,some (tI q.1),some (.int q.2),some (tI r.1)] rfl (tA (rQ (gz d3 (iR (a5 rfl) (a5 rfl)) (FP rfl)))) (λ_ H _=>jK (a5 rfl) rfl))) (λx G=>?_) λA _=>?_)) λA j=>⟨λl=>?_,λl=>?_⟩
   .refine iQ x (ck.mp G) λq _=>?_
    exact xy _
   .refine congrArg AV.bool ?_
    rw [BH,decide_eq_true_iff,jx,jD,fN,nO]
   .refine qE (a5 rfl) (j _ _ f.at_) (by rw [bb];exact y) (g7 (iR (a5 rfl) (a5 rfl))) λD v=>?_
    refine w _ _ (qV (v.le (b4 n j) f.fr) ⟨?_,f.fr⟩ _ _ rfl)
    rw [v.at_,o7,if_neg (by rw [fN] at l;rw [l];exact gO),b_];rfl
   .refine w _ _ (qV (b4 n j) ?_ _ _ rfl)
    rw [o7,if_pos (by rwa [jP] at l)]
    exact f.le j
  .intro m i F;refine r6 m F λn f o u=>?_
   exact iS (a5 rfl) (C _ _ _ n (ei c rfl f))
noncomputable def sortI (l:List Int):List Int:=l.mergeSort (λa b=>decide (a<=b))
theorem sortI_perm (l:List Int):(sortI l).Perm l:=wJ _ _
theorem sL (l:List Int):(sortI l).Pairwise (·<=·):=(tN (le:=λa b:Int=>decide (a<=b)) (λa b c d e=>decide_eq_true (jG (of_decide_eq_true d) (of_decide_eq_true e))) (λa b=>by
 rw [j4,decide_eq_true_iff,decide_eq_true_iff];exact Td a b) l).imp λh=>of_decide_eq_true h
theorem M8 (a:a8.Nodup):(sortI a8).Pairwise (·<·):=
 (vb.mpr ⟨sL a8,(sortI_perm a8).symm.nodup a⟩).imp λh=>Int.lt_iff_le_and_ne.mpr h
theorem ir:q∈sortI a8↔q∈a8:=(sortI_perm a8).mem_iff
theorem D0:∀{u w:hJ} (p:List AV),u<w->Lt (.tup (p++u.map .int)) (.tup (p++w.map .int))
 |[],[],p,h=>absurd h (oj _)
 |[],y::w,p,h=>by rw [pH,eT];exact .len p (.int y) _
 |x::u,[],p,h=>absurd h (OG _)
 |x::u,y::w,p,h=>by
  rcases G5.mp h with a |⟨e,a⟩
  .exact .tup p (.int x) (.int y) _ _ (.int a)
  .clear h;subst e
   have:=D0 (p++[.int x]) a
   rwa [eE,eE] at this
variable {bj cO:Row}
theorem RQ (h:bj.1<cO.1):Lt (ig bj) (ig cO):=.tup [] _ _ _ _ (D0 [] h)
theorem D1 (n:Nat) (w:hJ):oR (n+1) (tI w):=.tup _ _ λx a=>by
 refine iQ x (ck.mp a) λi _=>?_;exact .int _ i
theorem PN (r:Row):oR 4 (ig r):=.tup _ _ λx a=>by
 cases a with
 |head=>exact D1 2 _
 |tail _ a=>
  cases a with
  |head=>exact .int _ _
  |tail _ a=>exact (eg a).elim
theorem A4 (k:∀n:List AV->Prop,n l->pq b n i) (m:l.length<=5) (j:q0 l) (f:aN.Perm l) (d:aN.Pairwise λa g=>Lt a g\/a=g) (h:∀c,b.free c->n (.ref c) (b.set c (.list aN))):Ip 1 [i] b n:=
 .mk (k _ ⟨(c_ m (by decide)),j,(f.pairwise (d.imp λh=>h.elim .inl λe=>.inr (.inl e)) (λh=>h.elim (λh=>.inr (.inr h)) λh=>h.elim (λh=>.inr (.inl h.symm)) .inl)),aN,f,d,h⟩)
theorem sM (f:∀Q:List AV->Prop,Q (a8.map .int)->pq b Q i) (m:a8.length<=5):Cl (eF PG (a+1)) (.bi 1) [i] b (gQ b ((sortI a8).map .int)):=λQ j=>
 jM (A4 f (by rwa [bb]) (.inl λx g=>by refine iQ x (ck.mp g) λk _=>?_;exact (oq k rfl)) ((sortI_perm a8).map _)
  (gk.mpr ((sL a8).imp λ{l n} h=>(Int.lt_or_eq_of_le h).elim (λh=>.inl (.int h)) λe=>.inr (congrArg _ e))) λc d=>j _ _ (ki d.1) (ei c rfl ((fM d).own (ee _))))
variable {aQ:List Row}
theorem A5 (f:∀Q:List AV->Prop,Q (a7.map ig)->pq b Q i) (n:a7.length<=5) (j:aQ.Perm a7) (g:aQ.Pairwise λe m=>e.1<m.1):Cl (eF PG (a+1)) (.bi 1) [i] b (gQ b (aQ.map ig)):=λQ l=>
 jM (A4 f (by rwa [bb]) (.inr λx k=>by refine iQ x (ck.mp k) λr _=>?_;exact ⟨(PN r),_,_,rfl⟩) (j.map _)
  (gk.mpr (g.imp λh=>.inl (RQ h))) λc d=>l _ _ (ki d.1) (ei c rfl ((fM d).own (ee _))))
theorem p7 (i:Al (eF PG (a+1)) e b g (gQ b l)) (h:∀d,eC b d->n (.tup l) d):Al (eF PG (a+1)) e b (.call (.cst (.bi 5)) (.cons g .nil)) n:=
 xD i λv o j f=>by
  refine jo v f λc m=>?_
  exact λQ k=>jM (.mk (.mk m.at_ (k _ _ (ee _) (h _ j))))
theorem M9 (j:Al (eF PG (a+1)) e b g (gQ b (dq.map λy=>.bool (e9 y)))) (i:∀d,eC b d->n (.bool (dq.any e9)) d):Al (eF PG (a+1)) e b (.call (.cst (.bi 7)) (.cons g .nil)) n:=
 xD j λv o k f=>by
  refine jo v f λc m=>?_
  exact λQ l=>jM (.mk (.mk m.at_ (ei (dq.map e9) (by rw [ew];rfl) (l _ _ (ee _) (by rw [List.any_map];exact i _ k)))))
theorem gQ.mono (a:eC b ax) (h:gQ ax l i p):gQ b l i p:=eS h λc e h=>⟨c,e,h.at_,jH a h.fr⟩
theorem Kk (k:Al (eF PG (a+1)) e b g (gQ b (a7.map ig))) (m:a7.length<=5) (j:aQ.Perm a7) (i:aQ.Pairwise λd n=>d.1<n.1):Al (eF PG (a+1)) e b (.call (.cst (.bi 1)) (.cons g .nil)) (gQ b (aQ.map ig)):=
 xD k λv p l f=>by
  refine jo v f λc o=>?_
  exact uT (A5 (f' o.at_) m j i) λv s _ h=>h.mono l
variable {dU:List (Int×Nat×List h)}
section
section
variable {γ:Type}
noncomputable def strip (E:List (Int×Nat×List γ)):List (Int×List γ):=E.map λe=>(e.1,e.2.2)
noncomputable def K0 (E:List (Int×Nat×List γ)):List (AV×AV):=E.map λe=>(.int e.1,.ref e.2.1)
structure ML (f:γ->AV) (s0 st:AS) (d:Nat) (E:List (Int×Nat×List γ)):Prop where
 dict:st d=some (.dict (K0 E))
 fr:s0 d=none
 ls:∀e∈E,st e.2.1=some (.list (e.2.2.map f))/\s0 e.2.1=none
 nd:(E.map λe=>e.2.1).Nodup
noncomputable def FQ (s0 st:AS) (p:Nat):Prop:=∀b o,b≠p->s0 b=some o->st b=some o
noncomputable def YZ (s0 a b:AS):Prop:=∀x o,s0 x=some o->b x=a x
noncomputable def xI:List (Int×List γ)->Int->γ->List (Int×List γ)
 |[],k,x=>[(k,[x])]
 |p::T,k,x=>if p.1=k then (p.1,p.2++[x])::T else p::xI T k x
theorem CQ {a:Int×List h} {T:List (Int×List h)}:xI (a::T) q dn=if a.1=q then (a.1,a.2++[dn])::T else a::xI T q dn:=rfl
theorem FT {b:List (Int×List h)}:∀{T:List (Int×List h)},q∉T.map (·.1)->xI (T++(q,dq)::b) q dn=T++(q,dq++[dn])::b:=by
 intro d
 induction d with
 |nil=>
  intro _
  exact if_pos rfl
 |cons p T c=>
  intro a
  rw [eI,eL,not_or] at a
  exact (if_neg λe=>a.1 e.symm).trans (congrArg _ (c a.2))
theorem FU:∀{T:List (Int×List h)},q∉T.map (·.1)->xI T q dn=T++[(q,[dn])]:=by
 intro c
 induction c with
 |nil=>
  intro _
  exact rfl
 |cons p T b=>
  intro a
  rw [eI,eL,not_or] at a
  exact (if_neg λe=>a.1 e.symm).trans (congrArg _ (b a.2))
theorem yC {E:List (Int×h)} (j:q∈E.map (·.1)):∃c a f,E=c++(q,a)::f/\q∉c.map (·.1):=by
 induction E with
 |nil=>contradiction
 |cons e E i=>
  by_cases d:e.1=q
  .exact ⟨[],e.2,E,congrArg (λz=>(z,e.2)::E) d,eg⟩
  .exact yd (i ((eL.mp j).resolve_left λe=>d e.symm)) λc a f b g=>⟨(e::c),a,f,congrArg (e::·) b,(λb=>(eL.mp b).elim (λb=>d b.symm) g)⟩
theorem ro (E:List (Int×Nat×List h)):(strip E).map (·.1)=E.map (·.1):=by unfold strip;rw [ew];rfl
theorem uV (E:List (Int×Nat×List h)):(K0 E).map (·.1)=(E.map (·.1)).map .int:=by unfold K0;rw [ew,ew];rfl
theorem xJ (E:List (Int×Nat×List h)):IntKeys (K0 E):=λp a=>by
 refine iQ p (ck.mp a) λq _=>?_;exact ⟨q.1,rfl⟩
theorem qJ:AV.int q∈a8.map AV.int↔q∈a8:=⟨λh=>by
 refine eS (ck.mp h) λj a e=>?_
 (injection e with e;subst e);exact a,λh=>ck.mpr (ei q h rfl)⟩
theorem ML.le (c:ML dE b p a dU) (f:eC p ax):ML dE b ax a dU:=⟨f _ _ c.dict,c.fr,λe d=>⟨f _ _ (c.ls e d).1,(c.ls e d).2⟩,c.nd⟩
theorem ML.same (c:ML dE b p a dU) (g:∀f,b f=none->ax f=p f):ML dE b ax a dU:=⟨(g _ c.fr).trans c.dict,c.fr,λe d=>⟨(g _ (c.ls e d).2).trans (c.ls e d).1,(c.ls e d).2⟩,c.nd⟩
theorem ML.grow {x:h} {j:List (Int×Nat×List h)} (c:ML dE b p a (dU++(q,d,dq)::j)) (u:Upd p ax d (.list ((dq++[x]).map dE))):ML dE b ax a (dU++(q,d,dq++[x])::j):=by
 have k:=c.ls (q,d,dq) (by simp)
 have i:=c.nd
 rw [b_,eI,eQ,eU] at i
 refine ⟨?_,c.fr,λe l=>?_,?_⟩
 .rw [u.ne a λg=>by have:=c.dict;rw [g,k.1] at this;(injection this;contradiction)]
  have:=c.dict
  unfold K0 at this⊢
  rw [b_,eI] at this⊢;exact this
 .rcases eG.mp l with f |f
  .have:=c.ls e (fS _ f)
   exact ⟨(u.ne _ λg=>i.2.2 _ (fF f) d (.head _) g).trans this.1,this.2⟩
  .clear l;rcases eL.mp f with rfl |f
   .exact ⟨u.at_,k.2⟩
   .have:=c.ls e (fU _ (.tail _ f))
    exact ⟨(u.ne _ λg=>i.2.1.1 (ck.mpr (ei e f g))).trans this.1,this.2⟩
 .have:=c.nd
  rw [b_,eI] at this⊢;exact this
theorem I3 {P:h->AS->Prop} (t:ML dE b p a dU) (U:∀c,p c=none->b c=none) (F:dU.length<fG) (kl:∀f∈dU,f.2.2.length<fG) (J:Ev j e p g (.ref a)) (L:Ev j e p D (.int q)) (T:∀i,FQ p i a->∀Q:AV->AS->Prop,(∀d m,(∀k,b k=none->m k=i k)->P d m->Q (dE d) m)->VE PG j aL e i Q) (M:∀d N m H,P d m->YZ b m H->ML dE b H a N->strip N=xI (strip dU) q d->js PG j ah e H ag):
 js PG j (.cons (.ex (.fO (.fO g 2 (.cons D (.cons (.lst .nil) .nil))) 0 (.cons aL .nil))) ah) e p ag:=by
 have R:∀i ah l v w,FQ p i a->ML dE b i a (v++(q,ah,l)::w)->l.length<fG->(∀d,strip (v++(q,ah,l++[d])::w)=xI (strip dU) q d)->
  yf PG j 0 i (λK=>Ir PG j (.cons aL .nil) e i K) (λ_ p=>Nx j ‹w_› ag .next e p) (.ref ah):=by
  intro i ah l v w I n hl hs
  have B:=n.ls (q,ah,l) (by simp)
  refine .list B.1 (.inl rfl) (T i I _ λd m S Y=>(ei _ ((S ah B.2).trans B.1) (.app (by rw [bb];exact hl) (M d _ m _ Y (λk C f=>gu λs=>?_) ((n.same S).grow (x:=d) ⟨?_,λk u=>gu u⟩) (hs d)))))
  .rw [s,B.2] at f;contradiction
  .rw [gZ,b_];rfl
 refine J _ (.dict t.dict (.inr rfl) (L _ λc y=>?_))
 have E:=fM (av:=.list []) y
 have n:=t.le E.le
 have O:b c=none:=U c y.1
 have V:FQ p (p.set c (.list [])) a:=λk C _ f=>E.le k C f
 refine ei _ n.dict (.Tz (xJ _) ?_)
 by_cases A:q∈dU.map (·.1)
 .clear t U F J L T M y E O;refine yd (yC A) λv Z w km kn=>?_;clear A;obtain ⟨z,G⟩:=Z;subst km
  refine .inl (ei (.ref z) (ck.mpr ⟨(q,z,G),by simp,rfl⟩) (R _ z G v w V n (kl (q,z,G) (by simp)) λd=>?_))
  unfold strip
  rw [b_,eI,b_,eI,FT]
  rw [ew];exact kn
 .refine .inr (iD (by rw [uV,qJ];exact A) (by unfold K0;rw [bb];exact F) ?_)
  have kq:c≠a:=λs=>by have:=t.dict;rw [<-s,y.1] at this;contradiction
  refine R _ c [] dU [] (λk C u f=>(gu u).trans (V k C u f)) ⟨?_,t.fr,λf r=>?_,?_⟩ (c_ (fA _) F) λd=>?_
  .rw [gZ];unfold K0;rw [b_];rfl
  .rcases eG.mp r with r |r
   .have:=n.ls f r
    exact ⟨(gu λs=>by have W:=this.1;rw [s,n.dict] at W;(injection W;contradiction)).trans this.1,this.2⟩
   .cases dt.mp r
    exact ⟨(gu kq).trans E.at_,O⟩
  .rw [b_,eQ]
   refine iD t.nd (eU.mpr ⟨eg,eH⟩) (λX I k u=>?_)
   refine iQ X (ck.mp I) λf r=>?_
   cases dt.mp u
   exact λs=>by have:=(t.ls f r).1;rw [s,y.1] at this;contradiction
  .rw [FU (by rw [ro];exact A)]
   unfold strip;rw [b_];rfl
end
end
structure QN (st:AS) (p N cl k v:Nat) (cs:List Int):Prop where
 obj:st p=some (.list [.ref cl,.int k,.int v])
 cells:st cl=some (.list (cs.map .int))
 ne:cl≠p
 pos:0<cs.length
 le:k<=N
inductive xK (st:AS) (p cl N:Nat):Prop where
 |mk (k v:Nat) (cs:List Int) (h0:QN st p N cl k v cs):xK st p cl N
theorem xK.mono (h:xK b a d o) (g:o<=I):xK b a d I:=let ⟨k,v,cs,f,j,c,i,e⟩:=h;⟨k,v,cs,f,j,c,i,a_ e g⟩
theorem xK.keep (h:xK b a d o) (f:eC b p):xK p a d o:=let ⟨k,v,cs,g,j,c,i,e⟩:=h;⟨k,v,cs,f _ _ g,f _ _ j,c,i,e⟩
noncomputable def B3 (st st':AS) (p:Nat):Prop:=∀b,b≠p->st' b=st b
theorem A6 (o:Ev j e b aL i) (n:Ev j e b g (.ref a)) (m:b a=some (.list l)) (f:Ev j e b D (.int d)) (k:d<l.length) (h:∀c,Upd b c a (.list (l.set d i))->js PG j ah e c ag):
 js PG j (.cons (.ua g D aL) ah) e b ag:=o _ (n _ (f _ (.list m (gF d) k (h _ pA))))
theorem HI (h:Ev j e b g (.int q)) (a:Ev j e b D (.int aB)) (c:q.natAbs<2 ^ 60\/aB.natAbs<2 ^ 60):Ev j e b (.bin .mul g D) (.int (q*aB)):=ie h a (if_pos c)
theorem I4 (b:0<a):¬(a:Int)=0:=λq=>oD b (rE q)
theorem M' (h:Ev j e b g (.int a)) (c:Ev j e b D (.int d)) (f:0<d):Ev j e b (.bin .mod g D) (.int (a % d:Nat)):=ie h c (by
 show (if (d:Int)=0 then none else some (Int.fmod a d))=_
 rw [if_neg (I4 f),Int.ofNat_fmod])
theorem PO (h:Ev j e b g (.int a)) (c:Ev j e b D (.int d)) (f:0<d) (i:d<1000000):Ev j e b (.bin .fdiv g D) (.int (a / d:Nat)):=ie h c (by
 show (if (d:Int)=0\/1000000<=(d:Int).natAbs then none else some (Int.fdiv a d))=_
 rw [if_neg λq=>q.elim (I4 f) λq=>i6.mpr q i,Int.ofNat_fdiv])
theorem o9 (F:xK b d o I) (K:I<100000) (u:0<ak) (D:ak<100) (l:∀z q,z<ak->xK q d o (I+1)->B3 b q d->n (.int (z:Nat)) q):eF PG (a+4) (.fn 72) [.ref d,.int ak] b n:=by
 obtain ⟨e,v,cs,c⟩:=F
 refine gR [some (.ref d),some (.int ak),none,none] (df 2 _) rfl rfl ?_
 have B:∀(e v:Nat) (w:Option AV) g,QN g d (I+1) o e v cs->B3 b g d->js PG (eF PG (a+3)) (.cons (.asg 3 (.bin .mod (.sub (.var 0) (.cst (.int 2))) (.var 1))) (.cons (.ua (.var 0) (.cst (.int 2)) (.bin .fdiv (.sub (.var 0) (.cst (.int 2))) (.var 1))) (.cons (.ret (.var 3)) .nil)))
  [some (.ref d),some (.int ak),w,none] g (λJ _ q=>∃x,eC x q/\n (y_ J) x):=λe v w g h H=>by
  refine g_ (M' (fy (d:=2) (a5 rfl) h.obj d3 rfl) (a5 rfl) u) ?_
  refine A6 (d:=2) (PO (fy (d:=2) (a5 rfl) h.obj d3 rfl) (a5 rfl) u (gH D (by decide))) (a5 rfl) h.obj d3 (fJ 2) λs j=>?_
  refine iS (a5 rfl) (ei _ (ee _) (l _ s (Vq _ u) ⟨e,v / ak,cs,j.at_,(j.ne _ h.ne).trans h.cells,h.ne,h.pos,h.le⟩ λp f=>(j.ne p f).trans (H p f)))
 refine ko (f_ (fW (fy (d:=2) (a5 rfl) c.obj d3 rfl) d3 (eq_int rfl))) (λ_=>?_) λ_=>B e v _ b ⟨c.obj,c.cells,c.ne,c.pos,f5 c.le⟩ λp f=>rfl
 have E:=Vq e c.pos
 have L:(cs.map AV.int)[e % cs.length]? =some (.int cs[e % cs.length]):=by rw [ed,dj E];rfl
 have C:Ev (eF PG (a+3)) [some (.ref d),some (.int ak),none,none] b (.call (.cst (.bi 0)) (.cons (.sub (.var 0) (.cst (.int 0))) .nil)) (.int cs.length):=by
  have:=jj (a:=a+2) (e:=[some (.ref d),some (.int ak),none,none]) (fy (d:=0) (a5 (a:=0) rfl) c.obj d3 rfl) (f' c.cells)
  rwa [bb] at this
 refine g_ (fy (fy (d:=0) (a5 rfl) c.obj d3 rfl) c.cells (M' (fy (d:=1) (a5 rfl) c.obj d3 rfl) C c.pos) L) ?_
 refine A6 (d:=1) (ie (fy (d:=1) (a5 rfl) c.obj d3 rfl) d3 rfl) (a5 rfl) c.obj d3 (ej (fJ 1) (v5 2)) λg j=>?_
 have A:g d=some (.list [.ref o,.int (e+1:Nat),.int v]):=j.at_
 obtain ⟨r,G⟩:∃r:Nat,Ev (eF PG (a+3)) [some (.ref d),some (.int ak),some (.int cs[e % cs.length]),none] g (.ite (.cmp (.var 2) .lt (.cst (.int 0))) (.cst (.int 1)) (.cst (.int 0))) (.int r):=by
  by_cases f:cs[e % cs.length]<0
  .exact oq 1 (λn l=>f_ (fW (a5 rfl) d3 (oe (decide_eq_true f).symm)) _ l)
  .exact oq 0 (λn l=>f_ (fW (a5 rfl) d3 (oe (decide_eq_false f).symm)) _ l)
 have y:Ev (eF PG (a+3)) [some (.ref d),some (.int ak),some (.int cs[e % cs.length]),none] g (.sub (.var 0) (.cst (.int 1))) (.int (e+1:Nat)):=fy (d:=1) (a5 rfl) A d3 rfl
 refine A6 (d:=2) (ie (ie (ie (HI d3 (xA d3 (iO (a5 rfl)) λn l=>jM (.mk (.mk l))) (.inl (by decide))) G rfl) (HI (HI d3 y (.inl (by decide))) y (.inr ?_)) rfl) d3 rfl) (a5 rfl) A d3 (fJ 2) λs t=>s_end (B (e+1) (2*cs[e % cs.length].natAbs+r+7919*(e+1)*(e+1)+1) _ s ⟨t.at_,(t.ne _ c.ne).trans ((j.ne _ c.ne).trans c.cells),c.ne,c.pos,fi c.le⟩ λp f=>(t.ne p f).trans (j.ne p f))
 exact c_ (fi c.le) (gH (oC K) (by decide))
noncomputable abbrev Table:=List (Int×List Row)
noncomputable def D3 (w:hJ):Prop:=∀g∈w,1<=g/\g<=5
structure QO (r:Row):Prop where
 gl:D3 r.1
 len:r.1.length<=3
 HJ:10<=r.2
structure vq (T:Table) (N:Nat):Prop where
 keys:(T.map (·.1)).Nodup
 gl:D3 (T.map (·.1))
 rows:∀p∈T,∀r∈p.2,QO r
 K1:(T.map λp=>p.2.length).sum<=N
 ne:∀p∈T,0<p.2.length
theorem yD (k:Int) (x:h):∀T:List (Int×List h),(xI T k x).map (·.1)=if k∈T.map (·.1) then T.map (·.1) else T.map (·.1)++[k]:=by
 intro T
 induction T with
 |nil=>rfl
 |cons p T c=>
  show (if p.1=k then _ else _:List (Int×List h)).map (·.1)=_
  by_cases b:p.1=k
  .rw [if_pos b,if_pos (by rw [<-b];exact .head _)];rfl
  .rw [if_neg b]
   show p.1::(xI T k x).map (·.1)=if k∈p.1::T.map (·.1) then p.1::T.map (·.1) else (p.1::T.map (·.1))++[k]
   rw [c]
   clear c;by_cases a:k∈T.map (·.1)
   .rw [if_pos a,if_pos (.tail _ a)]
   .rw [if_neg a,if_neg λq=>(eL.mp q).elim (λq=>b q.symm) a];rfl
theorem vr:∀{T:List (Int×List h)} {p},p∈xI T q dn->p∈T\/(p.1=q/\∃l,p.2=l++[dn]/\(l=[]\/(q,l)∈T)):=by
 intro i
 induction i with
 |nil=>
  intro p d
  cases dt.mp d;exact .inr (tT rfl [] rfl (.inl rfl))
 |cons f T g=>
  intro p d
  rw [CQ] at d
  by_cases e:f.1=q
  .rw [if_pos e] at d
   rcases eL.mp d with rfl |d
   .exact .inr (tT e f.2 rfl (.inr (by rw [<-e];exact .head _)))
   .exact .inl (.tail _ d)
  .rw [if_neg e] at d
   clear e;rcases eL.mp d with rfl |d
   .exact .inl (.head _)
   .rcases g d with d |⟨a,l,b,c⟩
    .exact .inl (.tail _ d)
    .exact .inr (tT a l b (c.imp id (.tail _)))
theorem FV (k:Int) (x:h):∀T:List (Int×List h),((xI T k x).map λp=>p.2.length).sum=(T.map λp=>p.2.length).sum+1:=by
 intro c
 induction c with
 |nil=>
  exact rfl
 |cons p T b=>
  rw [CQ]
  by_cases a:p.1=k
  .rw [if_pos a,eI,jF,eI,jF,bh]
   exact g5 _ _ _
  .rw [if_neg a,eI,jF,eI,jF,b];rfl
variable {aR:Table}
theorem vq.add (h:vq aR a) (k:1<=q/\q<=5) (m:QO bj):vq (xI aR q bj) (a+1) where
 keys:=by
  rw [yD]
  split
  .exact h.keys
  .rename_i o
   exact eQ.mpr ⟨h.keys,eU.mpr ⟨eg,eH⟩,λs r b n f=>o (by rw [<-dt.mp n,<-f];exact r)⟩
 gl:=by
  rw [yD]
  split
  .exact h.gl
  .exact λg i=>(eG.mp i).elim (h.gl g) λi=>by rw [dt.mp i];exact k
 rows p d f c:=by
  clear k;rcases vr d with d |⟨rfl,l,e,j⟩
  .exact h.rows p d f c
  .rw [e] at c
   clear d e;rcases eG.mp c with c |c
   .clear m;rcases j with rfl |j
    .exact (eg c).elim
    .exact h.rows _ j f c
   .rw [dt.mp c];exact m
 K1:=by rw [FV];exact fi h.K1
 ne p d:=by
  rcases vr d with d |⟨_,l,e,_⟩
  .exact h.ne p d
  .rw [e,bh];exact fC _
theorem FQ.le (h:FQ b p a) (c:eC p ax):FQ b ax a:=λd o f e=>c _ _ (h d o f e)
theorem FQ.same (h:FQ b p a) (f:B3 p ax a):FQ b ax a:=λc o d e=>(f c d).trans (h c o d e)
theorem wx (a:Ev j e b g i) (h:VE PG j D e b λw b=>Am b n bN i w):VE PG j (.bin bN g D) e b n:=a _ h
theorem jN (h:VE PG j g e b λv b=>j i [v] b n):VE PG j (.call (.cst i) (.cons g .nil)) e b n:=h
theorem tD (c:d<=1000000) (h:n (.pZ 0 d 1) b):eF PG (a+1) (.bi 4) [.int d] b n:=jM (ei [(d:Int)] rfl (.one ⟨fA _,c,h⟩))
theorem p8 (c:bK .pZ ((eR a).map λk=>.int (k:Nat))):om b bK (.pZ 0 a 1):=tw (a:=0) (by
 rw [show xB 0 a=(eR a).map λk=>.int (k:Nat) by
  unfold xB;rw [Nat.sub_zero];exact fo λk _=>by rw [i4]]
 exact c)
theorem zo (E:xK b a d o) (A:o+I<100000) (m:∀x:AV,∃q,jI C x e=some q/\∀f (n:AV->AS->Prop) v,xK f a d v->v<100000->(∀h s,h<5->xK s a d (v+1)->B3 f s a->n (.int (1+(h:Nat))) s)->VE PG j g q f n) (S:∀w l k c,w.length=I->D3 w->xK l a d (o+I)->B3 b l a->rh l k c (.list (w.map .int))->n (.ref c) k):FL j g C .nil .nil e n (.pZ 0 I 1) b:=by
 refine tx .pZ (eR I) (λI=>.int (I:Nat)) (λn=>p8) (λh B f=>∃w:hJ,B=w.map .int/\w.length=h.length/\D3 w/\xK f a d (o+h.length)/\B3 b f a) ⟨[],rfl,rfl,(by (repeat intro _);contradiction),E,(λ_ _=>rfl)⟩ (λ_ _ _ _=>trivial) ?_ ?_
 .intro h y U B f M R K L;refine zT R λw r i t p u=>?_;subst r
  refine eS (m (.int (y:Nat))) λq H O=>?_
  have D:h.length<I:=by
   have:=congrArg fk M
   rw [fg,bh] at this
   rw [this];exact gm (fC _)
  refine ei q H (O f _ _ p (c_ (d7 (eB D) _) A) λN k J P Q=>⟨?_,L _ _ ⟨w++[1+(N:Int)],?_,?_,?_,?_,λF m=>(Q F m).trans (u F m)⟩⟩)
  .rw [bb,i]
   exact ej (gH (ej D (df _ _)) A) (eK _)
  .rw [b_];rfl
  .rw [bh,bh,i];rfl
  .refine λx z=>(eG.mp z).elim (t x) λz=>?_
   rw [dt.mp z];exact Tp J
  .rw [bh];exact P
 .intro B l k c G T;refine zT G λw r i t p u=>?_;clear E A m G;subst r
  rw [fg] at i p
  exact S w l k c i t p u T
theorem jk (h:VE PG j g e b λv b=>js PG j ah (e.set a (some v)) b ag):js PG j (.cons (.asg a g) ah) e b ag:=h
theorem A7 (h:VE PG j g e b λv a=>MZ j C bg ah ag e v a):js PG j (.cons (.kj C g bg) ah) e b ag:=h
theorem zZ (h:VE PG j D e b λv d=>FL j g C aq bD (bz.map λc=>c.bind λa=>(e[a]?).join) n v d):
 VE PG j (.comp bz g C D aq bD) e b n:=h
theorem tuple_list (c:b d=some (.list l)) (h:n (.tup l) b):eF PG (a+1) (.bi 5) [.ref d] b n:=jM (.mk (.mk c h))
noncomputable def Kx (K:MM->AS->Prop) (T:Fl->MM->AS->Prop):Fl->MM->AS->Prop:=λfl m st=>match fl with | .next=>K m st |fl=>T fl m st
theorem yE {s:CS} (J:MM->AS->Prop) (h:∀K:MM->AS->Prop,(∀e b,J e b->K e b)->VS PG j s e b (Kx K ag)) (a:∀e b,J e b->js PG j ah e b ag):js PG j (.cons s ah) e b ag:=h _ a
theorem yF (h:VT PG j g (VE PG j g) e b λt b=>if t then js PG j ah e b ag else js PG j bg e b ag):VS PG j (.iff g ah bg) e b ag:=h
theorem Us {W:MM->AS->(AV->AS->Prop)->Prop} (a:Tv j e b g aw) (c:aw=true->VT PG j D (VE PG j D) e b bM) (d:aw=false->bM false b):VT PG j (.and g D) W e b bM:=a _ (by
 clear a;induction aw with
 |true=>exact c rfl
 |false=>exact d rfl)
theorem RR (h:VE PG j g e b λv b=>VE PG j D e b λw b=>pR b (λr=>∃t,nQ b (.bool r) t/\bM t b) bE v w):VT PG j (.cmp g bE D) (VE PG j (.cmp g bE D)) e b bM:=h
theorem M_ (a:Ev j e b g i) (c:VE PG j D e b λw b=>n (.tup [i,w]) b):VE PG j (.tup (.cons g (.cons D .nil))) e b n:=a _ c
theorem A8:∀{l:List Nat},a∈l->a<=l.sum
 |y::l,h=>by
  rw [jF]
  exact (eL.mp h).elim (λh=>h▸eh _ _) λh=>a_ (A8 h) (df _ _)
theorem vS (hp:xK b d o I) (U:I+100<100000) (hQ:∀p E r,FQ b r d->xK r d o (I+36)->ML ig b r p E->vq (strip E) 5->n (.ref p) r):eF PG (a+7) (.fn 73) [.ref d] b n:=by
 have V:∀c,b c=none->c≠d:=λc hc q=>by
  obtain ⟨F,i,cs,h⟩:=hp
  rw [q,h.obj] at hc;contradiction
 refine gR [some (.ref d),none,none,none,none] (df 2 _) rfl rfl ?_
 refine zm λB lG N=>g_ (i:=tI []) (g7 gS) (A7 (jN (g8 d3 (iR (a5 rfl) d3) (o9 (ak:=6) (hp.keep N.le) (c_ (eh I 100) U) (by decide) (by decide) λF lF hk lx kJ=>tD (a:=a+5) (eB (gH hk (by decide))) ?_))))
 have kT:=V B N.fr
 refine iL .pZ (eR F) (λF=>.int (F:Nat)) (λn=>p8) (λp m r=>FQ b r d/\xK r d o (I+1+7*p.length)/\(∃E,ML ig b r B E/\vq (strip E) p.length)/\∃(C:hJ) (w3 w4:Option AV),D3 C/\C.length<=4/\m=[some (.ref d),some (.ref B),some (tI C),w3,w4])
  ⟨(λf z l e=>(kJ f l).trans (N.le _ _ e)),lx,⟨[],⟨(kJ _ kT).trans N.at_,N.fr,(by intros;contradiction),eH⟩,⟨eH,(by (repeat intro _);contradiction),(by intros;contradiction),eK _,(by intros;contradiction)⟩⟩,[],_,_,(by (repeat intro _);contradiction),(fA _),rfl⟩ (λ_ _ _ _=>trivial) ?_ ?_
 .intro p y r' m kD e kX K R;refine Ai m kX λkl Y J C w3 w4 M lC=>?_;refine eS J λE hE A=>?_
  have Q:p.length<5:=by
   have:=congrArg fk e
   rw [fg,bh,ff] at this
   exact ej (U3 this) (eY hk)
  refine ei _ rfl (jk (jN (zZ (jN (wx d3 (g8 d3 (iR (a5 rfl) d3) (o9 (ak:=4) Y (by exact Wz (o:=0) U Q (by decide)) (by decide) (by decide) λq lE G lD kC=>.int rfl (tD (a:=a+5) (d:=1+q) (by exact a_ (d7 (eB G) 1) (by decide)) ?_))))))))
  refine zo lD (by exact WA U Q G) (λx=>(ei _ rfl (λr n N' kV lh kZ=>wx d3 (g8 d3 (iR (a5 rfl) d3) (o9 (ak:=5) kV lh (by decide) (by decide) λp s kO f c=>.int rfl (kZ p s kO f c)))))) λu lJ kz c Z km kQ kH W=>tuple_list W.at_ ?_
  have kq:u≠[]:=λq=>by rw [q,qL] at Z;exact absurd (Z.trans (eZ _ _)) (t7 _).symm
  have kF:FQ b kz d:=((kl.same kC).same kH).le W.le
  have kx:ML ig b kz B E:=((hE.same λf l=>kC f (V f l)).same λf l=>kH f (V f l)).le W.le
  have kB:=kQ.keep W.le
  refine yE (λm r=>∃(i:hJ) (y:AV),m=[some (.ref d),some (.ref B),some (tI C),some y,some (tI i)]/\i≠[]/\i.length<=4/\D3 i/\FQ b r d/\xK r d o (I+1+7*p.length+6)/\ML ig b r B E) (λK R=>yF (Us (f_ (M0 (bT:=[]) (a5 rfl) (g7 gS))) (λhw=>?_) λ_=>R _ _ ⟨u,_,rfl,kq,(by exact n1 Z (Vz G)),km,kF,(kB.mono (by exact Xt G)),kx⟩)) ?_
  .refine RR (g8 d3 (iR (a5 rfl) d3) (o9 (ak:=3) kB (by exact WA U Q G) (by decide) (by decide) λt T ht X kM=>eq_int rfl _ (ei _ (.bool _) ?_)))
   have h7:FQ b T d/\xK T d o (I+1+7*p.length+6)/\ML ig b T B E:=iD (kF.same kM) (X.mono (by exact Xu G)) (kx.same λf l=>kM f (V f l))
   induction decide (((t:Nat):Int)=0) using j7 with
   |false=>exact R _ _ (qX u _ rfl kq (by exact n1 Z (Vz G)) km h7)
   |true=>
    refine g_ (i:=tI (C.take 3++u.take 1)) (λn hQ=>AR (rn (a:=3) (a5 rfl) d3) (rn (a:=1) (a5 rfl) d3) (by simp only [bb,fT];unfold fG;exact a_ (fQ (g9 _ _) (g9 _ _)) (by decide)) _ (by rw [<-b_];exact hQ)) (R _ _ (qX (C.take 3++u.take 1) _ rfl (λq=>?_) ?_ (λg O=>(eG.mp O).elim (λh=>M g (qx h)) λh=>km g (qx h)) h7))
    .induction u using el with
     |nil=>exact kq rfl
     |cons g u=>simp at q
    .simp only [bh,fT];exact fQ (g9 _ _) (g9 _ _)
  .intro m T ly;refine Aj ly λi y J lB kI ku kG X kn=>?_;subst J
   refine qY (gh lB) λg i J=>?_;subst J
   have lz:=ku g (.head _)
   have kP:∀e∈E,e.2.2.length<fG:=λe he=>c_ (a_ (A8 (ck.mpr (ei (e.1,e.2.2) (ck.mpr ⟨e,he,rfl⟩) rfl))) A.K1) (by unfold fG;exact gH Q (by decide))
   have kU:E.length<fG:=by
    have:=A.keys.length_le_of_subset (l₂:=[1,2,3,4,5]) λg O=>by
     have:=A.gl g O
     simp only [eL,eg,or_false];(first |exact Dr this |exact Ds this)
    unfold strip at this
    rw [bb,bb] at this
    exact c_ this (by unfold fG;decide)
   have lu:∀c,T c=none->b c=none:=λc hc=>by
    induction h:b c using d_ with
    |none=>rfl
    |some z=>
     by_cases ky:c=d
     .obtain ⟨F,i,cs,D⟩:=X
      rw [ky,D.obj] at hc;contradiction
     .rw [kG c z ky h] at hc;contradiction
   refine g_ (a5 rfl) (I3 (P:=λ(x:Row) s=>x.1=i/\10<=x.2/\FQ b s d/\xK s d o (I+1+7*p.length+7)) kn lu kU kP (a5 rfl) (px (a:=0) (a5 rfl) d3 rfl) (λkN L n H=>?_) λx E' kN lH H L lj kY=>R _ _ ⟨(λf z l e=>(L f z e).trans (H.2.2.1 f z l e)),?_,⟨E',lj,?_⟩,(g::i),_,_,ku,kI,rfl⟩)
   .have lr:∀f z,b f=some z->f≠B:=λf z e q=>by rw [q,N.fr] at e;contradiction
    have kW:xK kN d o (I+1+7*p.length+6):=by
     obtain ⟨F,i,cs,D,S,h3,h4,M⟩:=X
     exact ⟨F,i,cs,L _ _ (λq=>by rw [q,kn.dict] at D;(injection D;contradiction)) D,L _ _ (λq=>by rw [q,kn.dict] at S;(injection S;contradiction)) S,h3,h4,M⟩
    refine M_ (A0 (a:=1) (ay:=g::i) (a5 rfl) d3) (wx d3 (g8 d3 (iR (a5 rfl) d3) (o9 (ak:=3) kW (by exact Wz (o:=6) U Q (by decide)) (by decide) (by decide) λt lq ht lg kK=>.int rfl (H (i,10+(t:Int)) lq (λf l=>kK f (V f l)) (uz rfl (by exact Int.le.intro t rfl) ?_ lg)))))
    exact λf z l e=>(kK f l).trans (L f z (lr f z e) (kG f z l e))
   .obtain ⟨k1,v1,VA,D,S,h3,h4,M⟩:=H.2.2.2
    obtain ⟨k0,v0,lI,g1,g2,_⟩:=hp
    refine ⟨k1,v1,VA,(L d _ g1).trans D,(L o _ g2).trans S,h3,h4,?_⟩
    rw [bh];exact M
   .rw [kY,bh]
    exact A.add lz ⟨by rw [H.1];exact λg O=>ku g (.tail _ O),by rw [H.1];exact gL kI,H.2.1⟩
 .intro m kD lA;refine Ai m lA λkl Y J C w3 w4 M lC=>?_;refine eS J λE hE A=>?_
  rw [fg] at Y A
  exact iS (a5 rfl) (ei _ (ee _) (hQ B E kD kl (Y.mono (by exact Xv hk)) hE ⟨A.keys,A.gl,A.rows,a_ A.K1 (eY hk),A.ne⟩))
noncomputable abbrev Ent:=List (Int×Nat×List Row)
structure k4 (st:AS) (d:Nat) (E:Ent):Prop where
 dict:st d=some (.dict (K0 E))
 ls:∀e∈E,st e.2.1=some (.list (e.2.2.map ig))
variable {aK:Ent}
theorem k4.le (h:k4 b a aK) (c:eC b p):k4 p a aK:=⟨c _ _ h.dict,λe d=>c _ _ (h.ls e d)⟩
theorem ML.tab (h:ML ig b p a aK):k4 p a aK:=⟨h.dict,λe c=>(h.ls e c).1⟩
noncomputable def jR (g:Int) (r:Row):Row:=(g::r.1,r.2)
noncomputable def jV (T:Table):List Row:=T.flatMap λp=>(live p.2).map (jR p.1)
theorem rp (T:Table):(jV T).length<=(T.map λp=>p.2.length).sum:=by
 induction T with
 |nil=>exact eK _
 |cons p T a=>
  show (_++jV T).length<=_
  rw [bh,bb,eI,jF]
  exact fQ (xH _) a
theorem Na (h:k4 b a aK) (c:bK (.dict a ((K0 aK).map (·.1))) (aK.map λe=>AV.int e.1)):om b bK (.ref a):=vn h.dict (xJ aK) (by
 have:(K0 aK).map (·.1)=aK.map λe=>AV.int e.1:=by unfold K0;rw [ew];rfl
 rw [this] at c⊢;exact c)
theorem yG {c:Int×Nat×List Row} (h:k4 b a aK) (f:c∈aK) (i:Ev j e b g (.ref a)) (d:Ev j e b D (.int c.1)):Ev j e b (.sub g D) (.ref c.2.1):=sg i h.dict d (.inl ⟨⟨_,rfl⟩,xJ aK⟩) (ck.mpr ⟨c,f,rfl⟩)
theorem vq.FW (h:vq aR a) {p:Int×List Row} (b:p∈aR):p.2.length<=a:=a_ (A8 (ck.mpr (ei p b rfl))) h.K1
theorem mid {r:List h} (a:dq=dT++dn::r):dn∈dq:=by rw [a];exact fU _ (.head _)
theorem rG:∀{k:Nat},k<=5->k<fG:=λh=>c_ h (by unfold fG;decide)
theorem A9 (h:k4 b d aK) (F:vq (strip aK) 5) (B:a7.Perm (jV (strip aK))) (hw:a7.Pairwise λU kx=>U.1<kx.1):Cl (eF PG (a+4)) (.fn 74) [.ref d] b (gQ b (a7.map ig)):=by
 have kn:a7.length<=5:=by rw [B.length_eq];exact a_ (rp _) F.K1
 refine jQ [some (.ref d),none,none,none,none,none] (df _ _) rfl rfl λk J R hR=>?_
 (injection J with J;subst J)
 refine sJ gS λc kF E=>?_
 refine oV (a5 rfl) (iL (.dict d _) aK (λe=>.int e.1) (λQ=>Na (h.le E.le)) (λD m j=>eC b j/\iT b j c (.list ((jV (strip D)).map ig))/\∃H G n l,m=[some (.ref d),some (.ref c),H,G,n,l]) (uA E.le (E.own (ee _)) _ _ _ _ rfl) (λD m j I=>(ei _ (I.1 _ _ h.dict) rfl)) ?_ ?_)
 .intro D e r' m kl M ku K Z;refine w0 m ku λp w H G n l=>?_
  have y:=mid M
  have W:(e.1,e.2.2)∈strip aK:=ck.mpr (ei e y rfl)
  have P:∀f:List Row,(∃A,e.2.2=f++A)->((jV (strip D))++(live f).map (jR e.1)).length<=5:=λf zf=>kf zf λA h2=>by
   refine a_ ?_ F.K1
   rw [M]
   unfold strip
   rw [b_,b_,qK,eI,eI,jF,bh,bb,h2,bh]
   exact fQ (rp _) (a_ (xH _) (a_ (eh _ _) (eh _ _)))
  refine ei _ rfl (sJ gS λx kq t=>?_)
  have O:=h.le (b4 p t.le)
  have T:c≠x:=t.ne w.at_
  refine oV (yG O y (a5 rfl) (a5 rfl)) (iL (.list e.2.1 _) e.2.2 ig (λQ=>gJ (O.ls e y)) (λf m j=>eC b j/\iT b j x (.list ((live f).map λr=>tI r.1))/\iT b j c (.list ((jV (strip D)++(live f).map (jR e.1)).map ig))/\∃n l,m=[some (.ref d),some (.ref c),some (.int e.1),some (.ref x),n,l])
   (wV (b4 p t.le) (t.own p) (by rw [show live []=[] from rfl,pH,eT];exact w.le t.le) _ _ rfl) (λf m j I=>I.1 _ _ (h.ls e y)) ?_ ?_)
  .intro f r A m V C ky K2 N;refine zS m ky λu s o n l=>?_
   refine ei [some (.ref d),some (.ref c),some (.int e.1),some (.ref x),some (tI r.1),some (.int r.2)] rfl ?_
   have g:(live f).length<fG:=rG (a_ (by rw [bh,bb];exact df _ _) (P f (oq _ C)))
   refine pK (yA (rQ (M9 (e9:=λq:Row=>jv r.1 q.1) (tC _ (eB g) (a5 rfl) s.at_ λq _ S g=>(ei _ rfl (jK (A3 (rn (a5 rfl) (pC (a5 rfl))) (a5 rfl)) rfl))) λS _=>rfl))) λS g=>⟨λi=>?_,λi=>?_⟩
   .refine qE (a5 rfl) (g _ _ s.at_) (by rw [bb];assumption) (a5 rfl) λkC L=>?_
    have Y:=(o.le g).keep L T
    refine qE (a5 rfl) Y.at_ (by rw [bb];exact rG (P f (oq _ C))) (g7 (iR (i:=tI (e.1::r.1)) (λQ hQ=>AR (g7 (iO (a5 rfl))) (a5 rfl) ?_ _ hQ) (a5 rfl))) λkG z=>s_end (N _ _ (wV (z.le (L.le (b4 u g) s.fr) o.fr) ⟨?_,s.fr⟩ ⟨?_,o.fr⟩ _ _ rfl))
    .have:=(F.rows _ W r (mid C)).len
     rw [bb];unfold fG
     exact a_ (d7 this 1) (by decide)
    .rw [z.ne _ T.symm,L.at_,o7,if_neg,b_]
     .rfl
     .rw [fN] at i
      exact λq=>gO (i.symm.trans q)
    .rw [z.at_,o7,if_neg]
     .simp only [b_,eE];rfl
     .rw [fN] at i
      exact λq=>gO (i.symm.trans q)
   .rw [jP] at i
    refine N _ _ (wV (b4 u g) ?_ ?_ _ _ rfl)
    .rw [o7,if_pos i];exact s.le g
    .rw [o7,if_pos i];exact o.le g
  .intro m V kB;refine zS m kB λu s o n l=>?_
   refine Z _ _ (uA u ?_ _ _ _ _ rfl)
   have:jV (strip (D++[e]))=jV (strip D)++(live e.2.2).map (jR e.1):=by
    unfold jV strip
    rw [b_,k9,eI,pH,iZ,zO,eT]
   rw [this];exact o
 .intro m kl kz;refine w0 m kz λp w H G n l=>?_
  exact si (gz d3 (iO (a5 rfl)) (A5 (f' w.at_) (by rw [<-B.length_eq];exact kn) B hw)) λkD kq km X=>hR _ _ _ (b4 p km) (X.mono p)
noncomputable def Au.grow (A:Au) (k:Nat) (g:Int):Au:=match A.step k g with
 |some _=>A
 |none=>⟨A.steps.set k (A.at k++[(g,A.steps.length)])++[[]],A.ends++[-1]⟩
open Mine.Au renaming grow->x7
noncomputable def jL (A:Au) (k:Nat):hJ->Au×Nat
 |[]=>(A,k)
 |g::w=>jL (A.grow k g) (((A.grow k g).step k g).getD 0) w
noncomputable def Au.add (A:Au) (w:hJ) (l:Int):Au:=⟨(jL A 0 w).1.steps,(jL A 0 w).1.ends.set (jL A 0 w).2 l⟩
theorem CR (A:Au) (k:Nat):∀(u w:hJ),jL A k (u++w)=jL (jL A k u).1 (jL A k u).2 w
 |[],_=>rfl
 |g::u,w=>CR _ _ u w
theorem yH (h:¬a<t.steps.length):t.at a=[]:=by
 unfold Au.at;rw [ec,iC (i6.mp h)];rfl
theorem mX (d:a<t.steps.length) (h:t.step a q=none) (i:Nat):(t.grow a q).at i=if i=a then t.at a++[(q,t.steps.length)] else t.at i:=by
 unfold x7;rw [h]
 unfold Au.at
 rw [ec]
 clear h;by_cases b:i=a
 .subst b
  rw [if_pos rfl,eO (by rwa [gK]),GL d];rfl
 .rw [if_neg b]
  by_cases c:i<t.steps.length
  .rw [eO (by rwa [gK]),iM λe=>b e.symm]
   exact (ec ..).symm
  .rw [fm (by rw [gK];exact i6.mp c),show t.steps.getD i []=[] from yH c]
   cases i - (t.steps.set a _).length<;>rfl
theorem A' (h:aD.lookup q=none):(aD++[(q,a)]).lookup aB=if aB=q then some a else aD.lookup aB:=by
 induction aD with
 |nil=>
  show ([(q,a)]:List (Int×Nat)).lookup aB=_
  rw [eN]
  by_cases b:aB=q
  .rw [if_pos b,beq_iff_eq.mpr b]
  .rw [if_neg b,beq_false_of_ne b]
 |cons p aD c=>
  obtain ⟨y,v⟩:=p
  rw [eN] at h
  rw [iN,eN,eN]
  split at h
  .contradiction
  .rename_i d
   rw [c h]
   by_cases b:aB=q
   .rw [if_pos b,if_pos b,b,d]
   .rw [if_neg b,if_neg b]
theorem vt (b:a<t.steps.length):(t.grow a q).step a q=some ((t.step a q).getD t.steps.length):=by
 induction h:t.step a q with
 |some c=>unfold x7;rw [h];exact h
 |none=>
  unfold Vt
  rw [mX b h,if_pos rfl,A' h,if_pos rfl];rfl
theorem p9:(t.grow a q).steps.length=if (t.step a q).isSome then t.steps.length else t.steps.length+1:=by
 unfold x7
 induction t.step a q with
 |some b=>rfl
 |none=>show (_++[[]]).length=_;rw [bh,gK];rfl
variable {di:Int×Nat}
theorem wy (h:di∈t.at a):a<t.steps.length/\t.at a∈t.steps:=by
 by_cases b:a<t.steps.length
 .exact ⟨b,fj (yy b)⟩
 .rw [yH b] at h;exact (eg h).elim
theorem QP (c:t.ends.length=t.steps.length) (d:0<t.steps.length) (e:∀k p,p∈t.at k->p.2<t.steps.length) (f:∀k,((t.at k).map (·.1)).Nodup):t.Ok where
 len:=c
 pos:=d
 to s b p g:=by
  obtain ⟨k,a⟩:=e_.mp b
  have:=yy (ey.mp a).1
  rw [a] at this;clear c d f b a;(injection this with this;subst this)
  exact e k p g
 nd s b:=by
  obtain ⟨k,a⟩:=e_.mp b
  have:=yy (ey.mp a).1
  rw [a] at this;clear c d e b a;(injection this with this;subst this)
  exact f k
theorem lookup_none (h:aD.lookup q=none):q∉aD.map (·.1):=λa=>by
 have:=DV h
 rw [show (dV aD).map (·.1)=(aD.map (·.1)).map AV.int by unfold dV;rw [ew,ew];rfl,qJ] at this
 exact this a
theorem Au.Ok.rR (h:t.Ok) (k:Nat):((t.at k).map (·.1)).Nodup:=by
 by_cases a:k<t.steps.length
 .exact h.nd _ (fj (yy a))
 .rw [yH a];exact eH
theorem Au.Ok.Nb (h:t.Ok) (b:di∈t.at a):di.2<t.steps.length:=h.to _ (wy b).2 di b
theorem Au.Ok.grow (h:t.Ok) (j:a<t.steps.length) (g:Int):(t.grow a g).Ok:=by
 induction d:t.step a g using d_ with
 |some n=>unfold x7;rw [d];exact h
 |none=>
  have f:(t.grow a g).steps.length=t.steps.length+1:=by rw [p9,d];rfl
  refine QP ?_ (by rw [f];exact fC _) (λi p c=>?_) λi=>?_
  .rw [f];unfold x7;rw [d];show (_++[_]).length=_;rw [bh,h.len];rfl
  .rw [f]
   rw [mX j d] at c
   split at c
   .rcases eG.mp c with c |c
    .exact jt (h.Nb c)
    .rw [dt.mp c];exact fJ _
   .exact jt (h.Nb c)
  .rw [mX j d]
   split
   .rw [b_]
    exact eQ.mpr ⟨h.rR a,eU.mpr ⟨eg,eH⟩,λm l b k q=>lookup_none d (by
     have e:b=g:=dt.mp k
     rw [<-e,<-q];exact l)⟩
   .exact h.rR i
noncomputable def Au.Small (A:Au):Prop:=∀i,(A.at i).length<A.steps.length
theorem Au.Small.grow (h:t.Small) (c:a<t.steps.length) (g:Int):(t.grow a g).Small:=by
 induction b:t.step a g using d_ with
 |some d=>unfold x7;rw [b];exact h
 |none=>
  intro i
  rw [mX c b,p9,b]
  split
  .rw [bh];exact oC (h a)
  .exact jt (h i)
theorem Nc:∀(w:hJ) {A:Au} {k:Nat},A.Ok->k<A.steps.length->(jL A k w).1.Ok/\(jL A k w).2<(jL A k w).1.steps.length:=by
 intro d
 induction d with
 |nil=>
  intro A k h a
  exact ⟨h,a⟩
 |cons g w c=>
  intro A k h a
  refine c (h.grow a g) ?_
  rw [vt a,p9]
  show (A.step k g).getD A.steps.length<_
  induction b:A.step k g with
  |some t=>exact oh h b
  |none=>exact fJ _
theorem Au.Ok.add (h:t.Ok) (w:hJ) (l:Int):(t.add w l).Ok:=by
 refine iP (Nc w h h.pos) λa b=>?_
 exact ⟨by show (List.set _ _ _).length=_;rw [gK,a.len];rfl,a.pos,a.to,a.nd⟩
structure Ov (s0 st:AS) (a dx l e:Nat) (ds:List Nat) (A:Au):Prop where
 obj:st a=some (.inst 6 dx [(32,.ref l),(55,.ref e)])
 steps:st l=some (.list (ds.map .ref))
 ends:st e=some (.list (A.ends.map .int))
 len:ds.length=A.steps.length
 dict:∀i d,ds[i]? =some d->st d=some (.dict (dV (A.at i)))
 nd:ds.Nodup
 ne:l≠e
 fl:s0 l=none
 fe:s0 e=none
 fd:∀d∈ds,s0 d=none
inductive tE (s0 st:AS) (a:Nat) (A:Au):Prop where
 |mk (dx l e:Nat) (ds:List Nat) (h0:Ov s0 st a dx l e ds A):tE s0 st a A
theorem HM (h:C.length=aP.length) (a:∀i d,C[i]? =some d->b d=some (.dict (dV (aP.getD i [])))):kg b C aP:=by
 induction C generalizing aP with
 |nil=>clear a;induction aP using el with
  |nil=>exact .nil
  |cons=>contradiction
 |cons d C f=>induction aP using el with
  |nil=>contradiction
  |cons s aP=>exact .cons (a 0 d rfl) (f (Nat.succ.inj h) λi c e=>a (i+1) c e)
theorem Ov.au (h:Ov b p a d o I C t):CN p a d o I C t:=⟨h.obj,h.steps,h.ends,HM h.len h.dict⟩
theorem tE.au (h:tE b p a t):ng p a t:=let ⟨c,l,e,d,h⟩:=h;⟨c,l,e,d,h.au⟩
theorem tE.le (h:tE b p a t) (c:eC p ax):tE b ax a t:=let ⟨f,l,e,g,h⟩:=h;⟨f,l,e,g,c _ _ h.obj,c _ _ h.steps,c _ _ h.ends,h.len,λi d e=>c _ _ (h.dict i d e),h.nd,h.ne,h.fl,h.fe,h.fd⟩
theorem tE.base (h:tE p ax a t) (c:eC b p):tE b ax a t:=let ⟨f,l,e,i,h⟩:=h;⟨f,l,e,i,h.obj,h.steps,h.ends,h.len,h.dict,h.nd,h.ne,jH c h.fl,jH c h.fe,λd g=>jH c (h.fd d g)⟩
theorem tE.with (h:tE b p a t) (o:eC b p) (c:eC p ax) (k:iT p ax d av):eC b (b.set d av)/\eC (b.set d av) ax/\tE (b.set d av) ax a t:=by
 have s:b d=none:=jH o k.fr
 refine iD (ki s) (λx m e=>?_) ?_
 .clear h s;by_cases r:x=d
  .subst r;rw [gZ] at e;rw [<-e];exact k.at_
  .rw [gu r] at e;exact c _ _ (o _ _ e)
 .obtain ⟨v,l,e,y,h⟩:=h
  have j:∀g m,p g=some m->b g=none->(b.set d av) g=none:=λg m e w=>(gu λq=>by rw [q,k.fr] at e;contradiction).trans w
  exact ⟨v,l,e,y,c _ _ h.obj,c _ _ h.steps,c _ _ h.ends,h.len,λi f e=>c _ _ (h.dict i f e),h.nd,h.ne,j _ _ h.steps h.fl,j _ _ h.ends h.fe,λf n=>by
   obtain ⟨i,u⟩:=e_.mp n
   exact j _ _ (h.dict i f u) (h.fd f n)⟩
theorem nT:(aD.lookup q).isSome=true↔q∈aD.map (·.1):=by
 induction h:aD.lookup q with
 |none=>exact ⟨(by intros;contradiction),λa=>absurd a (lookup_none h)⟩
 |some t=>exact ⟨λ_=>by have:=fF (f:=(·.1)) (rP h);rw [show (dV aD).map (·.1)=(aD.map (·.1)).map AV.int by unfold dV;rw [ew,ew];rfl,qJ] at this;exact this,λ_=>rfl⟩
theorem D4:AV.int q∈(dV aD).map (·.1)↔q∈aD.map (·.1):=by
 rw [show (dV aD).map (·.1)=(aD.map (·.1)).map AV.int by unfold dV;rw [ew,ew];rfl,qJ]
theorem j2 (h:i∉aC.map (·.1)):dictPut aC i af=aC++[(i,af)]:=if_neg h
theorem wz (n:Ev j e b aL af) (m:Ev j e b g (.ref a)) (l:b a=some (.dict aC)) (d:Ev j e b D i) (f:te i aC) (k:aC.length<fG) (h:∀c,Upd b c a (.dict (dictPut aC i af))->js PG j ah e c ag):
 js PG j (.cons (.ua g D aL) ah) e b ag:=n _ (m _ (d _ (.dict l f k (h _ pA))))
theorem RS (m:Ev j e b g (.ref a)) (d:b a=some (.list l)) (n:l.length<fG) (h:∀c k i,rh b k c (.dict [])->Upd k i a (.list (l++[.ref c]))->js PG j ah e i ag):
 js PG j (.cons (.ex (.fO g 0 (.cons (.dict .nil) .nil))) ah) e b ag:=m _ (.list d (.inl rfl) ⟨[],rfl,eH,λc p=>by
 have f:=fM (av:=.dict []) p
 exact (ei _ (f.le _ _ d) (.app n (h c _ _ f pA)))⟩)
theorem RT (f:Ev j e b g (.int q)) (d:Ev j e b D (.ref a)) (c:b a=some (.dict (dV aD))):Tv j e b (.cmp g .Ck D) (!(aD.lookup q).isSome):=
 f_ (fW f d λQ h=>.Ck (.dict c (.inl ⟨⟨_,rfl⟩,nS _⟩) _ (nT.trans D4.symm)) h)
theorem Upd.ne' (u:Upd b p a av) (e:b d=some bF) (h:∀c,b a≠some c\/c≠bF):p d=some bF:=(u.ne d λq=>by
 rw [q] at e;exact (h bF).elim (λh=>h e) λh=>h rfl).trans e
theorem gA:dq[a]? =some dn->a<dq.length:=λb=>(ey.mp b).1
theorem yI (h:C.Nodup) (b:C[a]? =some o) (c:C[d]? =some o):a=d:=(iX (gA b) h).mp (b.trans c.symm)
theorem Nd (hM:tE b p d t) (kn:eC b p) (hO:t.Ok) (hS:t.Small) (hl:t.steps.length+ay.length<fG) (T:∀H,eC b H->tE b H d (t.add ay q)->n .none H):eF PG (a+4) (.fn 44) [.ref d,tI ay,.int q] p n:=by
 refine gR [some (.ref d),some (tI ay),some (.int q),none,none] (df 2 _) rfl rfl (g_ d3 (oV (a5 rfl) ?_))
 refine iL .tup ay AV.int (λn h=>.tup h) (λw m H=>eC b H/\tE b H d (jL t 0 w).1/\((jL t 0 w).1.Ok/\(jL t 0 w).1.Small/\(jL t 0 w).2<(jL t 0 w).1.steps.length/\(jL t 0 w).1.steps.length<=t.steps.length+w.length)/\∃w4,m=[some (.ref d),some (tI ay),some (.int q),some (.int (jL t 0 w).2),w4])
  ⟨kn,hM,⟨hO,hS,hO.pos,eK _⟩,_,rfl⟩ (λ_ _ _ _=>trivial) ?_ ?_
 .intro w r r' m kJ hw kG K S;refine Dm m kG λJ f kq w4=>?_;refine wY kq λQ V C U=>?_
  rw [CR] at S
  generalize (jL t 0 w).1=u at*
  generalize (jL t 0 w).2=k at*
  have hd:w.length<ay.length:=by rw [hw,bh,ff];exact gm (fC _)
  have R:u.steps.length<fG:=c_ (a_ U (d7 (eB hd) _)) hl
  clear kG kq;obtain ⟨dx,D,G,L,f⟩:=f
  refine eS (f.au.dict C) λM I F=>?_
  have kl:L[k]? =some M:=by
   rw [ed] at I
   refine eS (fX.mp I) λx hx e=>?_
   clear hM kn hO hS hl T hw J Q V U S C hd R f I F;(injection e with e;subst e);exact hx
  refine ei _ rfl (yE (λm H=>eC b H/\tE b H d (u.grow k r)/\m=[some (.ref d),some (tI ay),some (.int q),some (.int k),some (.int r)]) (λK' km=>yF (RT (a5 rfl) (fy (eP (a5 rfl) f.obj rfl) f.steps (a5 rfl) I) F _ ?_)) ?_)
  .induction B:u.step k r with
   |some kN=>
    rw [show (u.at k).lookup r=some kN from B]
    exact km _ _ (iD J (by unfold x7;rw [B];exact ⟨_,_,_,_,f⟩) rfl)
   |none=>
    rw [show (u.at k).lookup r=none from B]
    have hg:AV.int r∉(dV (u.at k)).map (·.1):=λl=>lookup_none B (D4.mp l)
    refine wz (af:=.int u.steps.length) (λn T=>jj (eP (a5 rfl) f.obj rfl) (f' f.steps) _ (by rw [bb,f.len];exact T)) (fy (eP (a5 rfl) f.obj rfl) f.steps (a5 rfl) I) F (a5 rfl) (.inl ⟨(oq _ rfl),nS _⟩) ?_ λkD u2=>?_
    .unfold dV;rw [bb];exact gH (V k) R
    rw [j2 hg] at u2
    have kx:d≠M:=λl=>by have:=f.obj;rw [l,F] at this;(injection this;contradiction)
    have kB:D≠M:=λl=>by have:=f.steps;rw [l,F] at this;(injection this;contradiction)
    have ku:G≠M:=λl=>by have:=f.ends;rw [l,F] at this;(injection this;contradiction)
    have o2:=(u2.ne d kx).trans f.obj
    have Z:=(u2.ne D kB).trans f.steps
    have e2:=(u2.ne G ku).trans f.ends
    refine RS (eP (a5 rfl) o2 rfl) Z (by rw [bb,f.len];exact R) λc kF kX z O=>?_
    have kC:d≠D:=λl=>by have:=z.le _ _ o2;rw [l,z.le _ _ Z] at this;(injection this;contradiction)
    have o4:=(O.ne d kC).trans (z.le _ _ o2)
    have e4:=(O.ne G f.ne.symm).trans (z.le _ _ e2)
    refine qE (eP (a5 rfl) o4 rfl) e4 (by rw [bb,Q.len];exact R) d3 λkP P=>km _ _ (iD ?_ ⟨dx,D,G,L++[c],?_⟩ rfl)
    .refine P.le (O.le (b4 (u2.le J (f.fd M (fj kl))) z.le) f.fl) f.fe
    .have c3:∀E o,kF E=some o->E≠D->E≠G->kP E=some o:=λE o e h1 h2=>(P.ne E h2).trans ((O.ne E h1).trans e)
     have X:∀{E kU},kF E=some (.dict kU)->E≠D/\E≠G:=λe=>⟨λl=>(by rw [l,z.le _ _ Z] at e;(injection e;contradiction)),λl=>(by rw [l,z.le _ _ e2] at e;(injection e;contradiction))⟩
     have kz:u.steps.length=L.length:=f.len.symm
     refine ⟨(P.ne d λl=>by have:=o4;rw [l,e4] at this;(injection this;contradiction)).trans o4,(P.ne D f.ne).trans (by rw [O.at_,b_];rfl),?_,?_,λi d' s=>?_,?_,f.ne,f.fl,f.fe,λd' kQ=>(eG.mp kQ).elim (f.fd d') λh=>?_⟩
     .rw [P.at_];unfold x7;rw [B,b_];rfl
     .rw [p9,B,bh,f.len];rfl
     .rw [mX C B]
      rcases ke i L.length with Y |Y
      .rw [eO Y] at s
       clear hM kn hO hS hl T hw J Q V U S C hd R I F km B hg kx kB ku o2 Z e2 O kC o4 e4 P kz Y;by_cases ky:i=k
       .clear f;subst ky
        rw [kl] at s;obtain rfl:=d5 s
        have N:=z.le _ _ u2.at_
        rw [if_pos rfl,c3 _ _ N (X N).1 (X N).2]
        unfold dV;rw [b_];rfl
       .rw [if_neg ky]
        have N:=z.le _ _ ((u2.ne d' λl=>ky (yI f.nd s (l▸kl))).trans (f.dict i d' s))
        exact c3 _ _ N (X N).1 (X N).2
      .rw [fm Y] at s
       have kO:d'=c:=by
        induction h:i -L.length using ja with
        |zero=>rw [h] at s;exact (d5 s).symm
        |succ j=>rw [h] at s;contradiction
       clear hM kn hO hS hl T hw J Q V U S hd R f I F kl km B hg u2 kx kB ku o2 Z e2 O kC o4 e4 P s;subst kO
       rw [if_neg λl=>i6.mpr Y (by rw [l,<-kz];exact C),yH λl=>i6.mpr Y (by rw [<-kz];exact l)]
       exact c3 _ _ z.at_ (X z.at_).1 (X z.at_).2
     .refine eQ.mpr (iD f.nd (eU.mpr ⟨eg,eH⟩) (λx hx y hy l=>?_))
      refine kf (e_.mp hx) λi s=>?_
      rw [l,dt.mp hy] at s
      have e0:=f.dict i c s
      have:=z.fr
      by_cases kH:c=M
      .rw [kH,u2.at_] at this;contradiction
      .rw [u2.ne c kH,e0] at this;contradiction
     .rw [dt.mp h]
      exact jH (u2.le J (f.fd M (fj kl))) z.fr
  .intro m kD kV;refine Th m kV λkT W=>?_
   have B:=vt (t:=u) (q:=r) C
   obtain ⟨dx,D,G,L,W⟩:=W
   have kI:=Q.grow C r
   have kK:k<(u.grow k r).steps.length:=by
    rw [p9];split
    .exact C
    .exact jt C
   refine eS (W.au.dict kK) λM I F=>?_
   have e1:jL u k [r]=(u.grow k r,(u.step k r).getD u.steps.length):=by
    show (u.grow k r,((u.grow k r).step k r).getD 0)=_
    rw [B];rfl
   rw [e1] at S
   refine g_ (sg (fy (eP (a5 rfl) W.obj rfl) W.steps (a5 rfl) I) F (a5 rfl) (.inl ⟨(oq _ rfl),nS _⟩) (rP B)) (S _ _ ⟨kT,⟨_,_,_,_,W⟩,⟨kI,V.grow C r,oh kI B,?_⟩,(some (.int r)),rfl⟩)
   rw [p9,bh]
   refine a_ ?_ (fi U)
   split
   .exact v5 _
   .exact eK _
 .intro m kJ kW;refine Dm m kW λJ kq kM w4=>?_;obtain ⟨dx,D,G,L,f⟩:=kq;refine wY kM λQ V C U=>?_
  refine A6 (a5 rfl) (eP (a5 rfl) f.obj rfl) f.ends (a5 rfl) (by rw [bb,Q.len];exact C) λkD u2=>ei _ (ee _) (T _ (u2.le J f.fe) ⟨dx,D,G,L,(u2.ne d λl=>?_).trans f.obj,(u2.ne D f.ne).trans f.steps,?_,f.len,λi w s=>(u2.ne w λl=>?_).trans (f.dict i w s),f.nd,f.ne,f.fl,f.fe,f.fd⟩)
  .have:=f.obj;rw [l,f.ends] at this;(injection this;contradiction)
  .rw [u2.at_,<-GK];rfl
  .have:=f.dict i w s;rw [l,f.ends] at this;(injection this;contradiction)
noncomputable def A_:Au:=⟨[[]],[-1]⟩
noncomputable def jq (A:Au) (rs:List Row):Au:=rs.foldl (λA r=>A.add r.1 r.2) A
theorem HN (A:Au) (u w:List Row):jq A (u++w)=jq (jq A u) w:=iY ..
theorem HO:A_.Ok where
 len:=rfl
 pos:=j_
 to s a p b:=by cases dt.mp a;exact (eg b).elim
 nd s a:=by cases dt.mp a;exact eH
theorem CT:A_.Small:=λi=>by rcases i with ⟨⟩<;>exact j_
theorem FX:∀(w:hJ) {A:Au} {a:Nat},A.Ok->A.Small->a<A.steps.length->(jL A a w).1.Small/\(jL A a w).1.steps.length<=A.steps.length+w.length:=by
 intro i
 induction i with
 |nil=>
  intro A a h d c
  exact ⟨d,eK _⟩
 |cons b w f=>
  intro A a h d c
  have e:=vt (q:=b) c
  have:=f (a:=((A.grow a b).step a b).getD 0) (h.grow c b) (d.grow c b) (by rw [e];exact oh (h.grow c b) e)
  refine ⟨this.1,a_ this.2 ?_⟩
  rw [p9,ff,eZ w.length 1,<-fK]
  refine gB ?_ _
  split
  .exact v5 _
  .exact eK _
theorem CU:∀(a:List Row) {A:Au},A.Ok->A.Small->(∀r∈a,r.1.length<=4)->(jq A a).Ok/\(jq A a).Small/\(jq A a).steps.length<=A.steps.length+4*a.length:=by
 intro g
 induction g with
 |nil=>
  intro A h b _
  exact iD h b (eK _)
 |cons r a e=>
  intro A h b d
  have c:=FX r.1 h b h.pos
  have:=e (h.add r.1 r.2) c.1 λq f=>d q (.tail _ f)
  refine iD this.1 this.2.1 (a_ this.2.2 ?_)
  rw [ff,S9,eZ (4*_) 4,<-fK]
  exact gB (a_ c.2 (d7 (d r (.head _)) _)) _
noncomputable def ou (T:Table) (k:Int):List Row:=(live ((T.lookup k).getD [])).map (jR k)
noncomputable def nA (T:Table):List Row:=(sortI (T.map (·.1))).flatMap (ou T)
theorem D5 (h:q∈aK.map (·.1)):∃e∈aK,e.1=q/\(strip aK).lookup q=some e.2.2:=by
 refine yd (yC h) λa c d c b=>?_;subst c;obtain ⟨r,l⟩:=c
 refine gp (q,r,l) (by simp) rfl ?_
 clear h
 induction a with
 |nil=>exact List.lookup_cons_self
 |cons e a f=>
  rw [eI,eL,not_or] at b
  show ((e.1,e.2.2)::strip (a++(q,r,l)::d)).lookup q=_
  rw [eN,beq_false_of_ne b.1]
  exact f b.2
theorem FY (h:VE PG j g e b λ_ b=>js PG j ah e b ag):js PG j (.cons (.ex g) ah) e b ag:=h
theorem iu (h:VE PG j D e b λv b=>VE PG j g e b λi b=>xb b (λd c f k=>Nx j ah ag .next e (b.set d (.inst c f (iB k a v)))) i):js PG j (.cons (.iE g a D) ah) e b ag:=h
theorem jd (k:Ev j e b g (.ref d)) (f:b d=some (.inst o I aT)) (h:∀c,Upd b c d (.inst o I (iB aT a i))->js PG j ah e c ag):
 VE PG j g e b (λl b=>xb b (λd o I aT=>Nx j ah ag .next e (b.set d (.inst o I (iB aT a i)))) l):=I1 k f (h _ pA)
theorem sj (d:HG j e b aq l) (h:∀c a,rh b a c (.list l)->n (.ref c) a):VE PG j (.lst aq) e b n:=d _ λc f=>h c _ (fM f)
theorem Ba (h:∀c a,rh b a c (.dict [])->n (.ref c) a):VE PG j (.dict .nil) e b n:=gp [] rfl eH (λc d=>h c _ (fM d))
theorem RU (h:VE PG j g e b λv b=>∀c d,rh b d c (.list [v])->n (.ref c) d) (k:∀n a:AV->AS->Prop,(∀v s,n v s->a v s)->VE PG j g e b n->VE PG j g e b a):VE PG j (.lst (.cons g .nil)) e b n:=k _ _ (λv s f c i=>f c _ (fM i)) h
theorem z1 (g:PG.Dt[d]? =some bP) (h:∀c f e,rh b e c (.inst d f [])->eF PG a (.fn bP.init) (.ref c::l) e λv e=>v= .none/\n (.ref c) e):eF PG (a+1) (.cls d) l b n:=
 call_cls g λc f i k j=>h c f _ (fM i)
theorem FZ (h:∀j s,eC b s->tE b s j A_->b j=none->n (.ref j) s):eF PG (a+4) (.cls 6) [] b n:=by
 refine z1 rfl λj t M n1=>gR [some (.ref j)] (df 2 _) rfl rfl (iu (RU (Ba λd K g l H k=>?_) λn L h D=>(gp [] rfl eH (λz F=>?_))))
 .have x:=k.ne (g.le _ _ n1.at_)
  have u:=g.ne n1.at_
  refine jd (o:=6) (I:=t) (aT:=[]) (a5 rfl) (k.le _ _ (g.le _ _ n1.at_)) λJ m=>iu (sj (iO d3) λe s5 f=>jd (o:=6) (I:=t) (aT:=[(32,.ref l)]) (a5 rfl) (f.le _ _ m.at_) λI o=>(gp _ (ee _) rfl ?_))
  have G:=f.ne m.at_
  have w:=(m.ne l x.symm).trans k.at_
  have v:=m.le (b4 n1.le (b4 g.le k.le)) n1.fr
  refine h j _ (o.le (b4 v f.le) n1.fr) ⟨t,l,e,[d],o.at_,(o.ne l x.symm).trans (f.le _ _ w),(o.ne e G.symm).trans f.at_,rfl,λi y r=>?_,eU.mpr ⟨eg,eH⟩,f.ne w,jH (b4 n1.le g.le) k.fr,jH v f.fr,λy A=>?_⟩ n1.fr
  .induction i using ja with
   |zero=>(injection r with r;subst r);exact (o.ne d u.symm).trans (f.le _ _ ((m.ne d u.symm).trans (k.le _ _ g.at_)))
   |succ i=>contradiction
  .rw [dt.mp A];exact jH n1.le g.fr
 .refine gi D λC N E B=>?_
  clear n1 E;induction C using el with
  |nil=>exact h _ _ (B z F)
  |cons p q=>contradiction
theorem p_ (b:(aR.map (·.1)).Nodup):(nA aR).Perm (jV aR):=by
 refine (W_ _ (sortI_perm _)).trans (.of_eq ?_)
 have i:∀a:Table,(∀p∈a,aR.lookup p.1=some p.2)->(a.map (·.1)).flatMap (ou aR)=jV a:=by
  intro a h
  induction a with
  |nil=>rfl
  |cons p a g=>
   show ou aR p.1++(a.map (·.1)).flatMap (ou aR)=_++jV a
   rw [g λq c=>h q (.tail _ c)]
   unfold ou
   rw [h p (.head _)];rfl
 refine i aR λp j=>?_
 refine qY (nj j) λf a e=>?_
 rw [e] at b⊢
 rw [b_,eQ] at b
 refine gV.mpr (nE f a rfl (λq c=>?_))
 rw [bne_iff_ne]
 exact λd=>b.2.2 _ (fF c) p.1 (.head _) d.symm
theorem D6 (h:vq aR a):∀r∈jV aR,r.1.length<=4/\D3 r.1/\10<=r.2/\r.1≠[]:=λr c=>by
 refine eS (mK.mp c) λp d c=>?_
 refine iQ r (ck.mp c) λq f=>?_
 have b:=h.rows p d q ((xG p.2 []).subset f)
 exact uz (fi b.len) (λg i=>(eL.mp i).elim (λe=>e▸h.gl _ (fF d)) (b.gl g)) b.HJ (by (repeat intro _);contradiction)
theorem Bb (h:k4 b a aK) (Q:List AV->Prop) (c:Q ((aK.map (·.1)).map .int)):pq b Q (.ref a):=q_ h.dict (xJ aK) _ (by rw [uV];exact c)
theorem vq.RW (h:vq (strip aK) a):(aK.map (·.1)).length<=a:=by
 have:∀T:Table,(∀p∈T,0<p.2.length)->T.length<=(T.map λp=>p.2.length).sum:=by
  intro T h
  induction T with
  |nil=>exact eK _
  |cons p T c=>
   rw [eI,jF,ff,eZ]
   exact fQ (h p (.head _)) (c λq d=>h q (.tail _ d))
 have b:=this _ h.ne
 unfold strip at b
 rw [bb] at b⊢
 exact a_ b h.K1
theorem D7 (W:b d=some (.inst 5 I [(54,.ref o)])) (h:k4 b o aK) (t:vq (strip aK) 5) (hP:∀g i,eC b i->ng i g (jq A_ (nA (strip aK)))->n (.ref g) i):Cl (eF PG (a+6)) (.fn 47) [.ref d] b n:=by
 have J:∀u f,nA (strip aK)=u++f->u.length<=5/\∀r∈u,r.1.length<=4:=λu f e=>by
  have S:=p_ t.keys
  constructor
  .refine a_ (a_ (eh _ f.length) (gy ?_)) (a_ (rp (strip aK)) t.K1)
   rw [<-S.length_eq,e,bh]
  .exact λr hr=>(D6 t r (S.mem_iff.mp (by rw [e];exact fS _ hr))).1
 refine jQ [some (.ref d),none,none,none,none] (df _ _) rfl rfl λO H R hR=>?_
 (injection H with H;subst H)
 refine jk (g8 d3 gS (FZ (a:=a+1) λg s1 p M1 _=>?_))
 refine rj (gz d3 (iO (eP (a5 rfl) (p _ _ W) rfl)) (sM (a:=a+4) (Bb (h.le p)) t.RW)) λf s2 l2 A=>?_
 refine jo f A λc hc=>?_
 refine mT (M1.with p l2 hc) λG b1 M2=>?_
 have kz:=gZ b c (.list ((sortI (aK.map (·.1))).map .int))
 generalize tS b c (.list ((sortI (aK.map (·.1))).map .int))=y at*
 have kn:∀u f,nA (strip aK)=u++f->(jq A_ u).Ok/\(jq A_ u).Small/\(jq A_ u).steps.length<=21:=λu f e=>by
  have:=CU u HO CT (J u f e).2
  exact iD this.1 this.2.1 (a_ this.2.2 (d7 (gT 4 (J u f e).1) 1))
 have Y:sortI (aK.map (·.1))=sortI ((strip aK).map (·.1)):=by rw [ro]
 refine iL (.list c _) (sortI (aK.map (·.1))) .int (λQ=>gJ hc.at_) (λD m i=>eC y i/\tE y i g (jq A_ (D.flatMap (ou (strip aK))))/\∃E l j,m=[some (.ref d),some (.ref g),E,l,j]) (ve b1 M2 _ _ _ rfl) (λ_ _ _ F=>F.1 _ _ kz) ?_ ?_
 .intro D O V m T P kC K hK;refine vg m kC λw C E l j=>?_
  have p:=b4 G w
  refine gi (D5 (q:=O) (ir.mp (mid P))) λe L km kF=>?_
  subst km
  have Z:ou (strip aK) e.1=(live e.2.2).map (jR e.1):=by unfold ou;rw [kF];rfl
  have X:nA (strip aK)=D.flatMap (ou (strip aK))++((live e.2.2).map (jR e.1)++V.flatMap (ou (strip aK))):=by
   unfold nA
   rw [<-Y,P,k9,iZ,Z]
  refine ei _ rfl (rj (gz d3 (iO (yG (h.le p) L (eP (a5 rfl) (p _ _ W) rfl) (a5 rfl))) (CP (a:=a+1) ((h.le p).ls e L) (eB (rG (t.FW (ck.mpr ⟨e,L,rfl⟩)))))) λf kO kH A=>?_)
  refine jo f A λc2 U=>?_
  refine mT (C.with w kH U) λb2 b3 M3=>?_
  have ky:=gZ y c2 (.list ((live e.2.2).map ig))
  generalize tS y c2 (.list ((live e.2.2).map ig))=kl at*
  refine iL (.list c2 _) (live e.2.2) ig (λQ=>gJ U.at_) (λs m i=>eC kl i/\tE kl i g (jq A_ (D.flatMap (ou (strip aK))++s.map (jR e.1)))/\∃l j,m=[some (.ref d),some (.ref g),some (.int e.1),l,j]) (qV b3 (by rw [pH,eT];exact M3) _ _ rfl) (λ_ _ _ F=>F.1 _ _ ky) ?_ ?_
  .intro s q r2 m kB M kI K2 kG;refine r6 m kI λB x l j=>?_
   have z:=kn (D.flatMap (ou (strip aK))++s.map (jR e.1)) ((q::r2).map (jR e.1)++V.flatMap (ou (strip aK))) (by rw [X,M,b_,eE,eE])
   have N:(jR e.1 q).1.length<=4:=(J (D.flatMap (ou (strip aK))++(live e.2.2).map (jR e.1)) _ (by rw [X,eE])).2 _ (fU _ (fF (mid M)))
   have ku:jq A_ (D.flatMap (ou (strip aK))++(s++[q]).map (jR e.1))=(jq A_ (D.flatMap (ou (strip aK))++s.map (jR e.1))).add (e.1::q.1) q.2:=by
    rw [b_,<-eE,HN];rfl
   obtain ⟨kP,l3,e3,kN,kx⟩:=id x
   refine ei [some (.ref d),some (.ref g),some (.int e.1),some (tI q.1),some (.int q.2)] rfl (FY (ju (a5 rfl) kx.obj rfl rfl rfl (iR (i:=tI (e.1::q.1)) (λQ hQ=>AR (g7 (iO (a5 rfl))) (a5 rfl) ?_ _ hQ) (a5 rfl)) (Nd (a:=a+1) x B z.1 z.2.1 ?_ λkM kD kq=>kG _ _ ⟨kD,?_,_,_,rfl⟩)))
   .rw [bb];exact a_ (gy (eZ 1 _)) (a_ N (by unfold fG;decide))
   .exact c_ (fQ z.2.2 N) (by unfold fG;decide)
   .rw [ku];exact kq
  .intro m kB kK;refine r6 m kK λB x l j=>?_
   refine hK _ _ (ve (b4 b2 B) ?_ _ _ _ rfl)
   rw [k9,iZ,zO,eT,Z]
   exact x.base b2
 .intro m T kJ;refine vg m kJ λw C E l j=>?_
  refine iS (a5 rfl) (hR _ _ _ (b4 G w) (hP g T (b4 G w) ?_))
  unfold nA
  rw [<-Y];exact C.au
noncomputable def I5 (p:Int×List Row):AV:=.tup [.int p.1,.tup (p.2.map ig)]
noncomputable def Nf (K:List (Int×List Row)):AV:=.tup (K.map I5)
theorem Kl (B:b d=some (.inst 5 I [(54,.ref o)])) (h:k4 b o aK) (t:vq (strip aK) 5) (S:Int->List Row) (w:∀e∈aK,(S e.1).Perm (live e.2.2)/\(S e.1).Pairwise λD F=>D.1<F.1) (K:∀A,eC b A->n (Nf (((sortI (aK.map (·.1))).map λf=>(f,S f)).filter λp=>!decide (p.2=[]))) A):Cl (eF PG (a+6)) (.fn 35) [.ref d] b n:=by
 refine jQ [some (.ref d),none] (df _ _) rfl rfl λf i R H=>?_
 (injection i with i;subst i)
 have z:(sortI (aK.map (·.1))).length<=5:=by rw [(sortI_perm _).length_eq];exact t.RW
 refine yB (xF (λf=>I5 (f,S f)) (eB (rG z)) (gz d3 (iO (eP (a5 rfl) B rfl)) (sM (a:=a+4) (Bb h) t.RW)) λf i E g=>(ei _ rfl ?_)) λv E g m=>?_
 .refine Qr f (D5 (ir.mp i)) λe r M=>?_
  have C:=t.FW (ck.mpr (ei e r rfl))
  exact I2 (a5 rfl) (p7 (a:=a+4) (Kk (a:=a+4) (gz d3 (iO (yG (h.le g) r (eP (a5 rfl) (g _ _ B) rfl) (a5 rfl))) (CP (a:=a+1) ((h.le g).ls e r) (eB (rG C))))
   (a_ (xH _) C) (w e r).1 (w e r).2) λ_ _=>rfl)
 .refine jo v m λc J=>?_
  refine si (p7 (a:=a+4) (l:=(((sortI (aK.map (λe:Int×Nat×List Row=>e.1))).map λf=>(f,S f)).filter λp:Int×List Row=>!decide (p.2=[])).map I5) (qq (uU (λf=>!decide (S f=[])) (λf=>I5 (f,S f)) (eB (rG z)) (a5 rfl) J.at_ λf i s j=>(gp _ rfl (tA (pB (f_ (fW (px (a:=1) (a5 rfl) d3 rfl) (g7 gS) λQ G=>.ne (.plain ?_ ?_ (decide (S f=[])) ?_) G)))) (λ_ L _=>jK (a5 rfl) rfl))) λv s j m=>?_) (n:=n) λs j=>K s (b4 g j)) λv s j m=>H _ _ _ (b4 g j) m
  .exact .tup _ _ λx u=>by
    refine iQ x (ck.mp u) λq _=>?_
    exact .tup _ _ λy l=>by
     cases l with
     |head=>exact yv 3 _
     |tail _ l=>
      cases l with
      |head=>exact .int _ _
      |tail _ l=>exact (eg l).elim
  .exact .tup _ _ λx u=>by exact (eg u).elim
  .rw [decide_eq_true_iff]
   exact ⟨λe=>by rw [e];rfl,λe=>jx.mp (AV.tup.inj e)⟩
  .rw [uw,ew];exact m
noncomputable def gI (R:List Row) (u:hJ):List Row:=(R.filter λr=>jv r.1 u).map λr=>(r.1.drop u.length,r.2)
noncomputable def after (R:List Row) (g:Int):List Row:=gI R [g]
noncomputable def sN (R:List Row):Int:=((R.find? λr=>r.1.isEmpty).map (·.2)).getD (-1)
theorem gN:jv ay bT=true↔bT<+:ay:=by
 unfold jv
 rw [decide_eq_true_iff]
 exact ⟨λh=>h▸List.take_prefix _ _,λh=>(List.prefix_iff_eq_take.mp h).symm⟩
theorem mY:bj∈gI a7 ay↔(ay++bj.1,bj.2)∈a7:=by
 unfold gI
 rw [ck]
 constructor
 .intro d;refine iQ bj d λq e=>?_
  refine iP (gC.mp e) λb c=>?_
  refine kf (gN.mp c) λt a=>?_
  rw [<-a,i0,a];exact b
 .intro h
  exact ei _ (gC.mpr ⟨h,gN.mpr (xX _ _)⟩) (by rw [i0])
theorem jX:bj∈after a7 q↔(q::bj.1,bj.2)∈a7:=mY
theorem tF (R:List Row):gI R []=R:=by
 unfold gI
 rw [jz.mpr λr _=>gN.mpr (uu)]
 exact List.map_id' R
theorem Ng {v:hJ}:jv ay (bT++v)=(jv ay bT&&jv (ay.drop bT.length) v):=by
 rw [BH,eW,gN,gN,gN]
 constructor
 .intro b;refine Xd ay b λt=>?_
  rw [eE]
  exact ⟨xX _ _,by rw [i0];exact xX _ _⟩
 .intro a;obtain ⟨⟨t,rfl⟩,h⟩:=a
  rw [i0] at h
  exact (List.prefix_append_right_inj _).mpr h
theorem tG (R:List Row) (u v:hJ):gI (gI R u) v=gI R (u++v):=by
 unfold gI
 rw [uw,ew,List.filter_filter]
 have:(λr:Row=>((λr:Row=>jv r.1 v)∘λr:Row=>(r.1.drop u.length,r.2)) r&&jv r.1 u)=λr=>jv r.1 (u++v):=by
  funext r;rw [Ng,Bool.and_comm];rfl
 rw [this]
 refine fo λr _=>?_
 show ((r.1.drop u.length).drop v.length,r.2)=_
 rw [ip,bh]
theorem Bc (x:Int) (w:hJ) (l:Int) (R:List Row) (g:Int):after ((x::w,l)::R) g=if x=g then (w,l)::after R g else after R g:=by
 unfold after gI
 by_cases h:x=g
 .have a:jv (x::w) [g]=true:=gN.mpr (by rw [h];exact (oq w rfl))
  rw [if_pos h,mL (p:=λr:Row=>jv r.1 [g]) a];rfl
 .rw [if_neg h,mM (p:=λr:Row=>jv r.1 [g]) λq=>h (by refine kf (gN.mp q) λt b=>?_;exact (ft b).1.symm)]
theorem Km (l:Int) (R:List Row) (g:Int):after (([],l)::R) g=after R g:=by
 unfold after gI
 rw [mM (p:=λr:Row=>jv r.1 [g]) λq=>by obtain ⟨t,a⟩:=gN.mp q;contradiction]
theorem Bd {f g:h->List v}:∀{l:List h},(∀x∈l,f x=g x)->l.flatMap f=l.flatMap g:=by
 intro d
 induction d with
 |nil=>
  intro _
  exact rfl
 |cons x l b=>
  intro a
  rw [iZ,iZ,a x (.head _),b λy c=>a y (.tail _ c)]
theorem F0 (o:a8.Nodup):∀{R:List Row},(∀g w l,(g::w,l)∈R->g∈a8)->R.Perm (R.filter (λr=>r.1.isEmpty)++a8.flatMap λg=>(after R g).map (jR g)):=by
 intro R
 induction R with
 |nil=>
  intro _
  have:(a8.flatMap λg=>(after [] g).map (jR g))=[]:=List.flatMap_eq_nil_iff.mpr λg _=>rfl
  rw [this];exact .refl _
 |cons r R i=>
 intro h
 obtain ⟨r,l⟩:=r
 have d:=i λg w l t=>h g w l (.tail _ t)
 clear i
 induction r using el with
 |nil=>
  have e:(a8.flatMap λg=>(after (([],l)::R) g).map (jR g))=a8.flatMap λg=>(after R g).map (jR g):=by simp only [Km]
  rw [e]
  exact .cons _ d
 |cons x w=>
  refine qY (nj (h x w l (.head _))) λb c n=>?_;subst n
  have f:=eQ.mp o
  have j:∀g,g≠x->after ((x::w,l)::R) g=after R g:=λg a=>by rw [Bc,if_neg λq=>a q.symm]
  have m:(b.flatMap λg=>(after ((x::w,l)::R) g).map (jR g))=b.flatMap λg=>(after R g).map (jR g):=Bd λg a=>by rw [j g λq=>f.2.2 g a x (.head _) q]
  have s:(c.flatMap λg=>(after ((x::w,l)::R) g).map (jR g))=c.flatMap λg=>(after R g).map (jR g):=Bd λg a=>by rw [j g λq=>(eU.mp f.2.1).1 (q▸a)]
  rw [k9,iZ] at d⊢
  rw [m,s,Bc,if_pos rfl]
  refine (d.cons (x::w,l)).trans ?_
  have k:((x::w,l)::R).filter (λr=>r.1.isEmpty)=R.filter (λr=>r.1.isEmpty):=rfl
  have p:((w,l)::after R x).map (jR x)=(x::w,l)::(after R x).map (jR x):=rfl
  rw [k,p,iN]
  have:=@List.perm_middle Row (x::w,l) (R.filter (λr=>r.1.isEmpty)++b.flatMap λg=>(after R g).map (jR g)) ((after R x).map (jR x)++c.flatMap λg=>(after R g).map (jR g))
  rw [eE,eE] at this
  exact this.symm
noncomputable def wt (r:Row):Nat:=2*r.1.length+1
noncomputable def sz (R:List Row):Nat:=(R.map wt).sum
theorem RX (R S:List Row):sz (R++S)=sz R+sz S:=by unfold sz;rw [b_,qK]
theorem PQ (g:Int) (R:List Row):sz (R.map (jR g))=sz R+2*R.length:=by
 induction R with
 |nil=>rfl
 |cons r R a=>
  have e:∀(r:Row) R,sz (r::R)=wt r+sz R:=λ_ _=>rfl
  rw [eI,e,a,e,ff]
  have:wt (jR g r)=wt r+2:=rfl
  exact Xi this
theorem Nh (b:a8.Nodup) (h:∀g w l,(g::w,l)∈a7->g∈a8) (c:∀g∈a8,after a7 g≠[]):(a8.map λg=>1+sz (after a7 g)).sum<=sz a7:=by
 have a:sz a7=_:=(W' wt (F0 b h)).sum_nat
 rw [b_,qK] at a
 rw [a]
 refine a_ ?_ (df _ _)
 clear a h b
 induction a8 with
 |nil=>exact fA _
 |cons g a8 d=>
  rw [eI,jF,iZ,b_,qK]
  refine fQ ?_ (d λg e=>c g (.tail _ e))
  have:=PQ g (after a7 g)
  unfold sz at this⊢
  rw [this]
  have:0<(after a7 g).length:=oN.mpr (c g (.head _))
  exact Xj this
structure tX (A:Au) (L:Nat->List Row):Prop where
 ok:A.Ok
 fin:∀n,n<A.steps.length->A.end n=sN (L n)
 step:∀n g t,n<A.steps.length->A.step n g=some t->L t=after (L n) g/\after (L n) g≠[]
 stop:∀n g,n<A.steps.length->A.step n g=none->after (L n) g=[]
 CV:∀n,n<A.steps.length->(L n).Pairwise λa b=>a.1<b.1
 HJ:∀n,n<A.steps.length->∀r∈L n,10<=r.2
theorem vu (b:(aD.map (·.1)).Nodup) (h:(q,a)∈aD):aD.lookup q=some a:=by
 refine qY (nj h) λd c g=>?_;clear h;subst g
 rw [b_,eQ] at b
 refine gV.mpr (nE d c rfl (λi f=>?_))
 rw [bne_iff_ne]
 exact λe=>b.2.2 _ (fF f) q (.head _) e.symm
theorem zp (f:a7.Pairwise λa b=>a.1<b.1) (c:∀r∈a7,10<=r.2):a7.filter (λr=>r.1.isEmpty)=if sN a7= -1 then [] else [([],sN a7)]:=by
 induction a7 using el with
 |nil=>rfl
 |cons r a7=>
  obtain ⟨w,l⟩:=r
  have d:a7.filter (λr=>r.1.isEmpty)=[]:=jD.mpr λq e h=>by
   have g:=(jg.mp f).1 q e
   rw [qe.mp h] at g
   exact OG _ g
  clear f;induction w using el with
  |nil=>
   have:sN (([],l)::a7)=l:=rfl
   have c:=c _ (.head _)
   rw [this,if_neg λq=>by rw [show l= -1 from q] at c;exact absurd c (by decide),mL rfl,d]
  |cons x w=>
   have:sN ((x::w,l)::a7)= -1:=by
    unfold sN
    rw [GO gO,jh.mpr λq e h=>jD.mp d q e h];rfl
   rw [this,if_pos rfl,mM gO,d]
variable {ar:Nat->List Row}
theorem tX.keys (G:tX t ar) (d:a<t.steps.length):(∀g w l,(g::w,l)∈ar a->g∈(t.at a).map (·.1))/\∀g∈(t.at a).map (·.1),after (ar a) g≠[]:=by
 refine ⟨λg w l h=>gj λq=>?_,λg e=>?_⟩
 .have:t.step a g=none:=by
   induction b:t.step a g using d_ with
   |none=>rfl
   |some c=>exact absurd (nT.mp (by rw [show (t.at a).lookup g=some c from b];rfl)) q
  have:=G.stop a g d this
  rw [<-jX (bj:=(w,l)),this] at h
  exact (eg h).elim
 .have:=nT.mpr e
  induction b:t.step a g using d_ with
  |none=>rw [show (t.at a).lookup g=none from b] at this;contradiction
  |some c=>exact (G.step a g c d b).2
noncomputable def Kn (u:hJ) (r:Row):Row:=(u++r.1,r.2)
noncomputable def Va (p:Nat×hJ):AV:=.tup [.int p.1,tI p.2]
noncomputable def F1 (L:Nat->List Row) (S:List (Nat×hJ)):List Row:=S.flatMap λp=>(L p.1).map (Kn p.2)
noncomputable def HP (L:Nat->List Row) (S:List (Nat×hJ)):Nat:=(S.map λp=>1+sz (L p.1)).sum
noncomputable def kids (A:Au) (n:Nat) (u:hJ):List (Nat×hJ):=(A.at n).map λp=>(p.2,u++[p.1])
theorem I6 (L:Nat->List Row) (S a:List (Nat×hJ)):HP L (S++a)=HP L S+HP L a:=by unfold HP;rw [b_,qK]
theorem I7 (L:Nat->List Row):∀(S:List (Nat×hJ)),S.length<=HP L S:=by
 intro b
 induction b with
 |nil=>
  exact eK _
 |cons p S a=>
  show S.length+1<=1+sz (L p.1)+HP L S
  rw [eZ]
  exact fQ (eh _ _) (a)
theorem tX.Ni (G:tX t ar) (b:a<t.steps.length) (c:di∈t.at a):t.step a di.1=some di.2/\ar di.2=after (ar a) di.1:=by
 have h:=vu (G.ok.rR a) (q:=di.1) (a:=di.2) c
 exact ⟨h,(G.step a di.1 di.2 b h).1⟩
theorem Nj (G:tX t ar) (b:a<t.steps.length) (u:hJ):((ar a).map (Kn u)).Perm ((if t.end a= -1 then [] else [(u,t.end a)])++F1 ar (kids t a u)):=by
 refine iP (G.keys b) λc e=>?_
 refine ((F0 (G.ok.rR a) c).map (Kn u)).trans (.of_eq ?_)
 rw [b_,zp (G.CV a b) (G.HJ a b),<-G.fin a b]
 congr 1
 .by_cases h:t.end a= -1
  .rw [if_pos h,if_pos h];rfl
  .rw [if_neg h,if_neg h];show [(u++[],_)]=_;rw [eT]
 .unfold F1 kids
  rw [Oe,Oe,List.map_flatMap]
  refine Bd λp d=>?_
  rw [(G.Ni b d).2,ew]
  refine fo λr _=>?_
  show (u++p.1::r.1,r.2)=(u++[p.1]++r.1,r.2)
  rw [eE];rfl
theorem Nk (G:tX t ar) (b:a<t.steps.length) (u:hJ):HP ar (kids t a u)<=sz (ar a):=by
 refine iP (G.keys b) λc d=>?_
 refine a_ (gy ?_) (Nh (G.ok.rR a) c d)
 unfold HP kids
 rw [ew,ew]
 exact congrArg _ (fo λp e=>by show 1+sz (ar p.2)=1+sz (after (ar a) p.1);rw [(G.Ni b e).2])
theorem RY (i:Ev j e b g (.ref a)) (d:b a=some (.list (l++[.tup aN]))) (k:jI C (.tup aN) e=some bQ) (f:2<=C.length) (h:∀c,Upd b c a (.list l)->js PG j ah bQ c ag):js PG j (.cons (.td C (.fO g 3 .nil)) ah) e b ag:=
 IY i d (.inr rfl) gS (.pop List.getLast?_concat (pk _ _ rfl k f (h _ (by rw [List.dropLast_concat];exact pA))))
theorem sk (h:ng b d t) (G:tX t ar) (U:(ar 0).length<=5) (I:sz (ar 0)<1000):Cl (eF PG (a+4)) (.fn 48) [.ref d] b (gQ b ((ar 0).map ig)):=by
 refine jQ [some (.ref d),none,none,none,none,none] (df _ _) rfl rfl λk hk R hR=>?_
 (injection hk with hk;subst hk)
 refine sJ gS λc1 s1 n1=>sJ (l:=[Va (0,[])]) (iO (g7 (iR d3 (g7 gS)))) λc2 s2 x=>?_
 have J:=x.ne n1.at_
 refine oQ (HP ar [(0,[])]) (λN m g=>∃(S:List (Nat×hJ)) (F:List Row) (w3 w4 j:Option AV),N=HP ar S/\N<1001/\(∀p∈S,p.1<t.steps.length/\p.2.length+N<1001)/\(F++F1 ar S).Perm (ar 0)/\eC b g/\iT b g c1 (.list (F.map ig))/\iT b g c2 (.list (S.map Va))/\m=[some (.ref d),some (.ref c1),some (.ref c2),w3,w4,j])
  ⟨[(0,[])],[],_,_,_,rfl,?_,?_,?_,(b4 n1.le x.le),((n1.own (ee _)).le x.le),(x.own n1.le),rfl⟩ ?_
 .show 1+sz (ar 0)+0<1001
  rw [eZ 1];exact oC I
 .intro p i
  cases dt.mp i
  exact ⟨G.ok.pos,by show 0+(1+sz (ar 0)+0)<1001;rw [eZ 1,i4];exact oC I⟩
 .show ((ar 0).map (Kn [])++[]).Perm _
  rw [eT,show Kn []=id from rfl,Ie]
 .intro N m g kC K z;refine Ak kC λS F w3 w4 j kn B y i L f c kB=>?_;subst kn;subst kB
  refine ei _ (pB (RM rfl c.at_)) (λkN o=>⟨λht=>?_,λht=>?_⟩)
  .rcases List.eq_nil_or_concat S with rfl |⟨S,⟨q,u⟩,rfl⟩
   .contradiction
   rw [List.concat_eq_append] at y B i z c
   have hF:F.length<=5:=by
    have:=i.length_eq
    rw [bh] at this
    exact a_ (eh _ _) (this▸U)
   obtain ⟨H,W⟩:q<t.steps.length/\u.length+HP ar (S++[(q,u)])<1001:=y (q,u) (by simp)
   have X:=Nk G H u
   have kl:HP ar (S++[(q,u)])=HP ar S+(1+sz (ar q)):=I6 ..
   rw [kl] at B W z
   have f:=f.le o
   have c:=c.le o
   rw [b_] at c
   refine RY (a5 rfl) c.at_ (bQ:=[some (.ref d),some (.ref c1),some (.ref c2),some (.int q),some (tI u),j]) rfl (eK _) λkx T=>?_
   have f:=f.keep T J
   have c:=T.own (s0:=b) c.fr
   have E:=T.le (b4 L o) c.fr
   obtain ⟨dx,l,e,ds,r⟩:=h
   have kq:Ev (eF PG (a+3)) [some (.ref d),some (.ref c1),some (.ref c2),some (.int q),some (tI u),j] kx (.sub (.attr (.var 0) 55) (.var 3)) (.int (t.end q)):=fy (eP (a5 rfl) (E _ _ r.obj) rfl) (E _ _ r.ends) (a5 rfl) (vo G.ok H)
   refine yE (λm g=>eC b g/\iT b g c1 (.list ((F++if t.end q= -1 then [] else [(u,t.end q)]).map ig))/\iT b g c2 (.list (S.map Va))/\m=[some (.ref d),some (.ref c1),some (.ref c2),some (.int q),some (tI u),j]) (λK' V=>yF (f_ (fW kq d3 (ne_int rfl)) _ ?_)) ?_
   .by_cases O:t.end q= -1
    .rw [if_pos O,eT] at V
     rw [decide_eq_true O]
     exact V _ _ (uz E f c rfl)
    .rw [if_neg O] at V
     rw [decide_eq_false O]
     refine qE (a5 rfl) f.at_ (by rw [bb];exact rG hF) (g7 (iR (a5 rfl) kq)) λkF u5=>V _ _ (uz (u5.le E f.fr) ?_ (c.keep u5 J.symm) rfl)
     rw [b_];exact u5.own f.fr
   .intro m kF kI;refine wY kI λM f c kn=>?_;subst kn
    refine eS (r.dict H) λkG hd ku=>?_
    have km:∀s:List (Int×Nat),(dV s).map (·.1)=s.map λp=>AV.int p.1:=λs=>by unfold dV;rw [ew];rfl
    refine oV (fy (eP (a5 rfl) (M _ _ r.obj) rfl) (M _ _ r.steps) (a5 rfl) hd) (iL (.dict kG _) (t.at q) (λp=>.int p.1) (λQ P=>vn (M _ _ ku) (nS _) (by rw [km];exact P)) (λD m g=>eC b g/\iT b g c1 (.list ((F++if t.end q= -1 then [] else [(u,t.end q)]).map ig))/\iT b g c2 (.list ((S++D.map λp=>(p.2,u++[p.1])).map Va))/\∃j,m=[some (.ref d),some (.ref c1),some (.ref c2),some (.int q),some (tI u),j])
     ⟨M,f,(by rw [pH,eT];exact c),_,rfl⟩ (λD m g h'=>(ei _ (h'.1 _ _ ku) (km _))) ?_ ?_)
    .clear U I hR n1 x L o z B y i ht hF kl T E kq M km;intro D p r' m ky hD kK K2 kD;refine Dm m kK λA f c j=>?_
     have kz:=G.Ni H (mid hD)
     refine ei _ rfl (qE (a5 rfl) c.at_ ?_ (g7 (iR (sg (fy (eP (a5 rfl) (A _ _ r.obj) rfl) (A _ _ r.steps) (a5 rfl) hd) (A _ _ ku) (a5 rfl) (.inl ⟨⟨_,rfl⟩,nS _⟩) (rP kz.1)) (i:=.int p.2) (af:=tI (u++[p.1])) λQ P=>AR (a5 rfl) (g7 (iO (a5 rfl))) ?_ _ (by rw [show tI (u++[p.1])= .tup (u.map .int++[.int p.1]) by unfold tI;rw [b_];rfl] at P;exact P))) λkO u7=>kD _ _ ⟨u7.le A c.fr,f.keep u7 J,?_,_,rfl⟩)
     .have h1:=I7 ar S
      have h2:=I7 ar (kids t q u)
      unfold kids at h2
      rw [bb,hD,bh,ff] at h2
      rw [bb,bh,bb]
      unfold kids at X
      rw [hD] at X
      exact VI h1 h2 X W
     .rw [bb];unfold fG
      exact a_ (nW (c_ (eh _ _) W)) (by decide)
     .have:=u7.own (s0:=b) c.fr
      rw [b_ (l₁:=D),<-eE,b_ (l₁:=S++_)]
      exact this
    .intro m ky kJ;refine Dm m kJ λA f c j=>?_
     have Y:HP ar (S++kids t q u)<HP ar S+(1+sz (ar q)):=by rw [I6];exact rA (c_ X (Nat.lt_add_of_pos_left j_)) _
     refine z _ _ _ Y ⟨(S++kids t q u),_,_,_,_,rfl,(gH Y B),(λp C=>?_),?_,A,f,c,rfl⟩
     .rcases eG.mp C with C |C
      .have:=y p (fS _ C)
       exact ⟨this.1,gH (rA Y _) (by rw [<-kl];exact this.2)⟩
      .refine iQ p (ck.mp C) λe he=>?_
       refine ⟨G.ok.Nb he,?_⟩
       show (u++[e.1]).length+_<_
       rw [bh,fK]
       refine c_ (d7 ?_ _) W
       rw [eZ];exact Y
     .refine Ih ?_ i
      have e1:∀S Z,F1 ar (S++Z)=F1 ar S++F1 ar Z:=λS Z=>k9
      rw [e1,e1,eE]
      refine Cc _ ?_
      have e2:F1 ar [(q,u)]=(ar q).map (Kn u):=List.flatMap_singleton ..
      rw [e2]
      refine Ih ?_ (Cc _ (Nj G H u).symm)
      rw [<-eE,<-eE]
      exact Xa _ List.perm_append_comm
  .have kH:S=[]:=by
    clear h G U I hR n1 x J z B y i L f c o;induction S using el with
    |nil=>rfl
    |cons p S=>contradiction
   clear h I n1 x J c z B y ht;subst kH
   rw [show F1 ar []=[] from rfl,eT] at i
   exact si (gz d3 (iO (a5 rfl)) (A5 (a:=a+2) (f' (o _ _ f.at_)) (by rw [i.length_eq];exact U) i.symm (G.CV 0 G.ok.pos))) λkM kx l4 hv=>hR _ _ _ (b4 L (b4 o l4)) (hv.mono (b4 L o))
section
section
variable {α γ:Type} (k:α->Int) (x:α->γ)
noncomputable def HQ (V:List α):List (Int×List γ):=V.foldl (λT r=>xI T (k r) (x r)) []
theorem uW (V:List α) (r:α):HQ k x (V++[r])=xI (HQ k x V) (k r) (x r):=by unfold HQ;rw [iY];rfl
variable {k x}
theorem snoc_ind {C:List α->Prop} (h0:C []) (h1:∀V r,C V->C (V++[r])) (V:List α):C V:=by
 rw [<-List.reverse_reverse V]
 induction V.reverse with
 |nil=>exact h0
 |cons r V ih=>rw [nM];exact h1 _ _ ih
theorem I8 (V:List α):((HQ k x V).map λp=>p.2.length).sum=V.length:=by
 induction V using snoc_ind with
 |h0=>rfl
 |h1 V r ih=>
 rw [uW,FV,ih,bh];rfl
theorem Nl (V:List α):∀p∈HQ k x V,0<p.2.length:=by
 induction V using snoc_ind with
 |h0=>exact (by intros;contradiction)
 |h1 V r ih=>
 intro p hp
 rw [uW] at hp
 rcases vr hp with hp |⟨_,l,e,_⟩
 .exact ih p hp
 .rw [e,bh];exact fC _
theorem sO (V:List α):((HQ k x V).map (·.1)).Nodup/\∀g,g∈(HQ k x V).map (·.1)↔∃r∈V,k r=g:=by
 induction V using snoc_ind with
 |h0=>exact ⟨eH,λg=>⟨(by intros;contradiction),λzf=>eS zf λr h _=>nomatch h⟩⟩
 |h1 V r ih=>
 rw [uW,yD]
 by_cases h:k r∈(HQ k x V).map (·.1)
 .rw [if_pos h]
  refine ⟨ih.1,λg=>(ih.2 g).trans ⟨λzf=>eS zf λq h e=>(ei q (fS _ h) e),λζ=>?_⟩⟩
  refine eS ζ λq hq e=>?_
  rcases eG.mp hq with hq |hq
  .exact ei q hq e
  .rw [dt.mp hq] at e
   exact (ih.2 g).mp (e▸h)
 .rw [if_neg h]
  refine ⟨eQ.mpr (iD ih.1 (eU.mpr ⟨eg,eH⟩) (λa ha b hb q=>h (by rw [<-dt.mp hb,<-q];exact ha))),λg=>?_⟩
  rw [eG,ih.2,dt]
  constructor
  .rintro (⟨q,hq,e⟩ |rfl)
   .exact ei q (fS _ hq) e
   .exact ei r (fU _ (.head _)) rfl
  .intro zr1;refine eS zr1 λq hq e=>?_
   rcases eG.mp hq with hq |hq
   .exact .inl (ei q hq e)
   .rw [dt.mp hq] at e;exact .inr e.symm
theorem D8 (V:List α):∀p∈HQ k x V,p.2=(V.filter λr=>decide (k r=p.1)).map x:=by
 induction V using snoc_ind with
 |h0=>exact (by intros;contradiction)
 |h1 V r ih=>
 intro p hp
 rw [uW] at hp
 rw [x5,b_]
 have hn:=(sO (k:=k) (x:=x) V)
 by_cases h:k r=p.1
 .rw [mL (p:=λr=>decide (k r=p.1)) (decide_eq_true h)]
  by_cases hm:k r∈(HQ k x V).map (·.1)
  .refine yd (yC hm) λT1 l T2 e hnm=>?_
   rw [e,FT hnm] at hp
   rw [e,b_,eI,eQ,eU] at hn
   have hl:=ih (k r,l) (by rw [e];simp)
   rcases eG.mp hp with hp |hp
   .exact absurd (h▸fF hp) hnm
   .rcases eL.mp hp with rfl |hp
    .exact congrArg (·++[x r]) hl
    .exact absurd (ck.mpr (ei p hp h.symm)) hn.1.2.1.1
  .rw [FU hm] at hp
   have e0:V.filter (λr=>decide (k r=p.1))=[]:=jD.mpr λq hq h2=>hm ((hn.2 _).mpr (ei q hq ((of_decide_eq_true h2).trans h.symm)))
   rw [e0]
   rcases eG.mp hp with hp |hp
   .exact absurd (h▸fF hp) hm
   .rw [dt.mp hp];rfl
 .rw [mM (p:=λr=>decide (k r=p.1)) (by rw [decide_eq_false h];exact gO),List.filter_nil,pH,eT]
  rcases vr hp with hp |⟨e,_⟩
  .exact ih p hp
  .exact absurd e.symm h
end
theorem PR:∀{T:List (Int×List h)},(∀p∈T,0<p.2.length)->T.length<=(T.map λp=>p.2.length).sum:=by
 intro d
 induction d with
 |nil=>
  intro _
  exact eK _
 |cons p T c=>
  intro a
  rw [eI,jF,ff,eZ]
  exact fQ (a p (.head _)) (c λq b=>a q (.tail _ b))
noncomputable def rS (r:Row):Int:=r.1.headD 0
noncomputable def xM (r:Row):Row:=(r.1.drop 1,r.2)
noncomputable def tabOf (V:List Row):Table:=HQ rS xM V
noncomputable def z3 (V:List Row):List (Int×List hJ):=HQ (·.2) (·.1) V
noncomputable def SH (a b:Row):Prop:=b.1.length<a.1.length\/(a.1.length=b.1.length/\a.1<b.1)
theorem HR {f:Row->Int} {x:Row->h} (d:strip dU=HQ f x a7) (c:a7.length<fG):dU.length<fG/\∀e∈dU,e.2.2.length<fG:=by
 have a:=PR (T:=strip dU) (by rw [d];exact Nl a7)
 have b:((strip dU).map λp=>p.2.length).sum=a7.length:=by rw [d];exact I8 a7
 rw [b] at a
 refine ⟨c_ (by unfold strip at a;rw [bb] at a;exact a) c,λe g=>c_ (A8 (ck.mpr ⟨(e.1,e.2.2),ck.mpr ⟨e,g,rfl⟩,rfl⟩)) (b▸c)⟩
theorem Be {f:Row->Int} {x:Row->h} {J:MM->Prop} (W:bg= .cons (.ex (.fO (.fO g 2 (.cons D (.cons (.lst .nil) .nil))) 0 (.cons aL .nil))) .nil) (hl:a7.length<fG) (B:b o=none) (N:p o=some (.dict [])) (L:b I=some (.list (a7.map ig))) (C:eC b p) (u:J e) (hm:∀e,J e->∀q∈a7,∃i,jI [a,d] (ig q) e=some i/\J i/\∀p,Ev j i p g (.ref o)/\Ev j i p D (.int (f q))/\Ev j i p aL (dE (x q))) (V:∀e E c,J e->ML dE b c o E->strip E=HQ f x a7->eC b c->js PG j ah e c ag):MZ j [a,d] bg ah ag e (.ref I) p:=by
 subst W
 refine iL (.list I _) a7 ig (λQ=>gJ (C _ _ L)) (λg e c=>eC b c/\J e/\∃E,ML dE b c o E/\strip E=HQ f x g) ⟨C,u,[],⟨N,B,(by intros;contradiction),eH⟩,rfl⟩ (λ_ _ _ w=>w.1 _ _ L) ?_ λe c zf=>Dn zf λn t E l v=>V e E c t l v n
 intro g q r' e A y kl K R;refine Dn kl λG u E X H=>?_
 refine gi (hm e u q (mid y)) λi n t l=>?_
 refine iP (HR H (c_ (by rw [y,bh];exact eh _ _) hl)) λM Y=>?_
 have S:∀s:AS,eC b s->∀I,s I=none->b I=none:=λs w I=>jH w
 refine ei i n (I3 (P:=λz p=>z=x q/\eC b p) X (S _ G) M Y (l A).1 (l A).2.1 (λr v Q T=>(l r).2.2 _ (T (x q) r (λ_ _=>rfl) ⟨rfl,λbg k m=>v bg k (λz=>by rw [z,B] at m;contradiction) (G bg k m)⟩)) λz Z r km F ha O U=>R _ _ ⟨λbg k m=>(ha bg k m).trans (F.2 bg k m),t,Z,O,?_⟩)
 rw [U,H,F.1,uW]
theorem Bf (h:ng b d t) (G:tX t ar) (B:(ar 0).length<=5) (O:sz (ar 0)<1000) (D:∀g E i,eC b i->ML tI b i g E->strip E=z3 (ar 0)->n (.ref g) i):Cl (eF PG (a+5)) (.fn 50) [.ref d] b n:=by
 refine jQ [some (.ref d),none,none,none] (df _ _) rfl rfl λk r R I=>?_
 (injection r with r;subst r)
 refine zm λg Q n1=>rj (gz d3 (iO (a5 rfl)) (sk (a:=a) (h.le n1.le) G B O)) λv P z F=>?_
 refine jo v F λc w=>?_
 have L:g≠c:=λq=>by have:=n1.at_;rw [q,w.fr] at this;contradiction
 have l:eC b (b.set c (.list ((ar 0).map ig))):=ki (jH n1.le w.fr)
 refine Be (b:=b.set c (.list ((ar 0).map ig))) (o:=g) (f:=(·.2)) (x:=(·.1)) (dE:=tI) (J:=λm=>∃p u,m=[some (.ref d),some (.ref g),p,u]) rfl (rG B) (by rw [gu L];exact n1.fr) (z _ _ n1.at_) (gZ _ _ _) (λH o e=>?_) ⟨_,_,rfl⟩ ?_ ?_
 .by_cases s:H=c
  .rw [s,gZ] at e;rw [s,<-e];exact w.at_
  .rw [gu s] at e;exact z _ _ (n1.le _ _ e)
 .intro m N q _;refine Lo m N λp u=>?_
  exact gp [some (.ref d),some (.ref g),some (tI q.1),some (.int q.2)] rfl ⟨_,_,rfl⟩ (λb=>⟨a5 rfl,a5 rfl,a5 rfl⟩)
 .intro m E i M j K A;refine Lo m M λp u=>?_
  exact iS (a5 rfl) (I _ _ _ (b4 l A) (D g E i (b4 l A) ⟨j.dict,jH l j.fr,λe C=>⟨(j.ls e C).1,jH l (j.ls e C).2⟩,j.nd⟩ K))
end
noncomputable def keyOf:AV->AV
 | .tup (.tup w::_)=>.tup [.int (-(w.length:Int)),.tup w]
 |_=>.none
theorem I9 (h:SH bj cO):Lt (keyOf (ig bj)) (keyOf (ig cO)):=by
 show Lt (.tup [.int (-((bj.1.map AV.int).length:Int)),tI bj.1]) (.tup [.int (-((cO.1.map AV.int).length:Int)),tI cO.1])
 rw [bb,bb]
 rcases h with h |⟨a,b⟩
 .exact .tup [] _ _ _ _ (.int (Int.neg_lt_neg (ib.mpr h)))
 .rw [a];exact .tup [.int (-(cO.1.length:Int))] _ _ [] [] (D0 [] b)
theorem PT (r:Row):oR 4 (keyOf (ig r)):=.tup _ _ λx a=>by
 cases a with
 |head=>exact .int _ _
 |tail _ a=>
  cases a with
  |head=>exact D1 2 _
  |tail _ a=>exact (eg a).elim
theorem Nm (w:Al j e b g (gQ b (a7.map ig))) (o:a7.length<=5) (f:aQ.Perm a7) (d:aQ.Pairwise SH) (t:∀r s,Ev j [some (ig r)] s D (keyOf (ig r))):Al j e b (.EW g D) (gQ b (aQ.map ig)):=λQ p=>by
 refine w _ λv n i l=>?_
 refine jo v l λc y=>?_
 refine f' y.at_ _ ⟨(by rw [bb];exact c_ o (by decide)),keyOf,(λx a z u=>?_),(.inr λx a=>?_),?_,(aQ.map ig),(f.map _),?_,(λc2 k=>p _ _ (b4 i (ki k.1)) ⟨c2,rfl,(fM k).own i⟩)⟩
 .refine eS (ck.mp a) λq _ m=>?_;subst m
  exact t q n _ u
 .rw [ew] at a
  refine iQ x (ck.mp a) λq _=>?_
  exact ⟨(PT q),_,_,rfl⟩
 .exact (f.map ig).pairwise (gk.mpr (d.imp λh=>.inl (I9 h))) λh=>h.symm
 .exact gk.mpr (d.imp λh=>I9 h)
theorem Ut:True:=trivial
theorem B4 (h:ng b d t) (G:tX t ar) (B:(ar 0).length<=5) (hz:sz (ar 0)<1000) (K:∀r∈ar 0,r.1≠[]) (F:a7.Perm (ar 0)) (U:a7.Pairwise SH) (N:∀p i C E j,eC b j->j p=some (.inst 5 C [(54,.ref i)])->k4 j i E->strip E=tabOf a7->n (.ref p) j):Cl (eF PG (a+5)) (.fn 49) [.ref d] b n:=by
 refine jQ [some (.ref d),none,none,none] (df _ _) rfl rfl λkm A R V=>?_
 (injection A with A;subst A)
 refine zm λi s1 n1=>rj (Nm (gz d3 (iO (a5 rfl)) (sk (a:=a) (h.le n1.le) G B hz)) B F U λq j=>g7 (iR (wq (jj (px (a:=0) (a5 rfl) d3 rfl) λ_ h=>.tup h)) (px (a:=0) (a5 rfl) d3 rfl))) λv s2 l u=>?_
 refine jo v u λc I=>?_
 have kl:i≠c:=λq=>by have:=n1.at_;rw [q,I.fr] at this;contradiction
 have M:eC b (b.set c (.list (a7.map ig))):=ki (jH n1.le I.fr)
 refine Be (b:=b.set c (.list (a7.map ig))) (o:=i) (f:=rS) (x:=xM) (dE:=ig) (J:=λm=>∃s H,m=[some (.ref d),some (.ref i),s,H]) rfl (rG (F.length_eq▸B)) (by rw [gu kl];exact n1.fr) (l _ _ n1.at_) (gZ _ _ _) (λS o e=>?_) ⟨_,_,rfl⟩ ?_ ?_
 .by_cases D:S=c
  .rw [D,gZ] at e;rw [D,<-e];exact I.at_
  .rw [gu D] at e;exact l _ _ (n1.le _ _ e)
 .intro m X q O;refine Lo m X λs H=>?_
  refine gp [some (.ref d),some (.ref i),some (tI q.1),some (.int q.2)] rfl ⟨_,_,rfl⟩ (λb=>⟨a5 rfl,?_,g7 (iR (A0 (a:=1) (a5 rfl) d3) (a5 rfl))⟩)
  refine qY (gh (K q (F.mem_iff.mp O))) λg w e=>?_
  refine px (l:=q.1.map .int) (a:=0) (a5 rfl) d3 ?_
  unfold rS;rw [e];rfl
 .intro m E j Y Z W L;refine Lo m Y λs H=>?_
  exact si (n:=n) (gz d3 (iO (a5 rfl)) λQ T=>tv (df 4 a) λp C z fd K=>T _ _ (ki z.1) (N p i C E _ (b4 (b4 M L) (ki z.1)) (gZ _ _ _) (Z.tab.le (ki z.1)) W)) λv kn l u=>V _ _ _ (b4 (b4 M L) l) u
inductive Bg (s0 st:AS) (f t:Nat) (held:List Int):Prop where
 |mk (dx l:Nat) (h0:st f=some (.inst 7 dx [(56,.ref t),(57,.ref l)])) (h1:st l=some (.list (held.map .int))) (h2:s0 f=none) (h3:s0 l=none):Bg s0 st f t held
theorem tH (f:eC b p) (g:eC p ax) (c:iT p ax a av):eC b (b.set a av)/\eC (b.set a av) ax:=by
 refine ⟨ki (jH f c.fr),λx h e=>?_⟩
 by_cases d:x=a
 .subst d;rw [gZ] at e;rw [<-e];exact c.at_
 .rw [gu d] at e;exact g _ _ (f _ _ e)
theorem Bg.with (h:Bg b p a d a8) (i:eC p ax) (n:iT p ax o av):Bg (b.set o av) ax a d a8:=by
 obtain ⟨m,l,f,g,t,s⟩:=h
 have j:∀c k,p c=some k->b c=none->(b.set o av) c=none:=λc k e r=>(gu λq=>by rw [q,n.fr] at e;contradiction).trans r
 exact ⟨m,l,i _ _ f,i _ _ g,j _ _ f t,j _ _ g s⟩
theorem Bg.base (h:Bg p ax a d a8) (c:eC b p):Bg b ax a d a8:=let ⟨g,l,e,f,j,i⟩:=h;⟨g,l,e,f,jH c j,jH c i⟩
theorem vv (h:(b.set a av) d=none):d≠a/\b d=none:=by
 have c:d≠a:=λq=>by rw [q,gZ] at h;contradiction
 exact ⟨c,by rwa [gu c] at h⟩
theorem Bg.upd {t:Nat} {o:AO} (h:Bg (b.set d o) p a t a8) (r:eC (b.set d o) p) (u:Upd p ax d av):Bg (b.set d av) ax a t a8/\eC (b.set d av) ax:=by
 obtain ⟨m,l,j,k,s,n⟩:=h
 have f:=vv s
 have g:=vv n
 refine ⟨⟨m,l,(u.ne a f.1).trans j,(u.ne l g.1).trans k,(gu f.1).trans f.2,(gu g.1).trans g.2⟩,λi q e=>?_⟩
 by_cases c:i=d
 .rw [c,gZ] at e;rw [c,<-e];exact u.at_
 .rw [gu c] at e;exact (u.ne i c).trans (r i q ((gu c).trans e))
theorem I_ (r:ng p o t) (q:t.Ok) (h:Bg b p d o a8) (j:eC b p) (s:0<a8.length) (v:a8.length<=10000) (w:∀f,eC b f->Bg b f d o (a8.drop (fZ [t] a8).1)->n (.int (fZ [t] a8).2) f):eF PG (a+6) (.fn 56) [.ref d] p n:=by
 obtain ⟨i,l,g,m,k,y⟩:=h
 refine FJ (df _ _) ⟨g,m,r,q⟩ s v λe x=>?_
 have n1:=fM (av:=.list ((a8.drop (fZ [t] a8).1).map .int)) x
 have u2:=pA (b:=p.set e (.list ((a8.drop (fZ [t] a8).1).map .int))) (a:=d) (av:=.inst 7 i [(56,.ref o),(57,.ref e)])
 have u:=u2.le (b4 j n1.le) k
 exact w _ u ⟨i,e,u2.at_,(u2.ne e (n1.ne g).symm).trans n1.at_,k,jH j n1.fr⟩
theorem Ja (h:Ev j e b (.attr g a) (.ref d)) (c:b d=some (.list l)):Tv j e b (.attr g a) (!l.isEmpty):=λQ f=>h _ (ei _ (.list c) f)
noncomputable def QQ (X:zU) (a:Nat) (r:w_) (T:Fl->MM->AS->Prop) (m:MM) (v:AV) (st:AS):Prop:=∃xs,st a=some (.list xs)/\y8 a xs st (λ_ st=>js PG X r m st T) 0 [v]
theorem Nn (d:b a=some (.list l)) (f:l.length<fG) (h:∀c,Upd b c a (.list (l++[i]))->js PG j ah e c ag):QQ j a ah ag e i b:=ei _ d (.app f (h _ pA))
theorem Np (d:Ev j e b g (.ref a)) (c:b a=some (.list l)) (h:VE PG j D e b λv f=>QQ j a ah ag e v f):js PG j (.cons (.ex (.fO g 0 (.cons D .nil))) ah) e b ag:=d _ (.list c (.inl rfl) h)
theorem add_lists (i:b a=some (.list l)) (f:b d=some (.list aN)) (g:l.length+aN.length<=fG) (h:∀c e,rh b e c (.list (l++aN))->n (.ref c) e):Am b n .add (.ref a) (.ref d):=.app i f g λc j=>h c _ (fM j)
theorem sP (a:List Int->Nat×Int) (b:∀a8,0<a8.length->0<(a a8).1) (c:0<a8.length):iK a a8.length a8=(a a8).2::iK a (a8.drop (a a8).1).length (a8.drop (a a8).1):=by
 induction a8 using el with
 |nil=>contradiction
 |cons g a8=>
  show (a (g::a8)).2::iK a a8.length _=_
  rw [vp a b a8.length]
  have:=b (g::a8) c
  rw [eA,ff];exact j' (d7 this _)
theorem qa (A:Au):∀s:List Int,0<s.length->0<(fZ [A] s).1:=λs a=>(rd [A] a).2
theorem F2 (E:ng b o t) (A:t.Ok) (h:Bg b p d o a8) (z:eC b p) (C:a8.length<=10000) (I:∀c j,eC b j->iT b j c (.list ((iK (fZ [t]) a8.length a8).map .int))->n (.ref c) j):eF PG (a+8) (.fn 58) [.ref d] p n:=by
 refine gR [some (.ref d),none] (df 2 _) rfl rfl (sJ gS λc s1 n1=>?_)
 have D:=tH z n1.le (n1.own (ee _))
 refine oQ a8.length (λN m j=>∃e f,N=e.length/\m=[some (.ref d),some (.ref c)]/\Bg (b.set c (.list (f.map .int))) j d o e/\eC (b.set c (.list (f.map .int))) j/\f.length+e.length<=10000/\f++iK (fZ [t]) e.length e=iK (fZ [t]) a8.length a8)
  (n7 a8 [] rfl rfl (h.with n1.le (n1.own (ee _))) D.2 (by rw [qL,i4];exact C) rfl) ?_
 intro N m j P K B;refine iW P λe f U Z F v r w=>?_;clear P;subst U;subst Z
 have x:b c=none:=jH z n1.fr
 obtain ⟨dx,l,k,y,H,G⟩:=id F
 refine ei _ (pB (Ja (eP (a5 rfl) k rfl) y)) (λM i=>⟨λQ=>?_,λQ=>?_⟩)
 .have u:0<e.length:=by
   clear E A h z C I n1 D B F v r w x k y H G i;induction e using el with
   |nil=>contradiction
   |cons g s=>exact fC _
  have W:Bg (b.set c (.list (f.map .int))) M d o e:=⟨dx,l,i _ _ k,i _ _ y,H,G⟩
  have q:=b4 v i
  have T:=q _ _ (gZ b c _)
  refine Np (a5 rfl) T (ju (a5 rfl) (i _ _ k) rfl rfl rfl gS (I_ (a:=a+1) (E.le (b4 (ki x) q)) A W q u (a_ (df _ _) r) λkm J Y=>?_))
  refine Nn (J _ _ (gZ b c _)) (by rw [bb];exact c_ (a_ (eh _ _) r) (by unfold fG;decide)) λkl X=>?_
  have V:=qa t e u
  refine iP (Y.upd J X) λL R=>?_
  have S:f.map AV.int++[.int (fZ [t] e).2]=(f++[(fZ [t] e).2]).map .int:=by rw [b_];rfl
  rw [S] at L R
  have O:(e.drop (fZ [t] e).1).length<e.length:=by rw [eA];exact kh u V
  refine B _ _ _ O (n7 _ _ rfl rfl L R ?_ ?_)
  .rw [bh]
   exact a_ (a_ (gy (fK _ _ _)) (d7 (by rw [eZ];exact O) _)) r
  .rw [eE,<-w,sP _ (qa t) u];rfl
 .have u:e=[]:=by
   clear E A h z C I n1 D B F v r w x k y H G i;induction e using el with
   |nil=>rfl
   |cons g s=>contradiction
  clear E A h z C n1 D B F r k y H G Q;subst u
  rw [show iK (fZ [t]) ([]:List Int).length []=[] from rfl,eT] at w
  rw [w] at v
  have q:=b4 v i
  exact iS (a5 rfl) (ei _ (ee _) (I c M (b4 (ki x) q) ⟨q _ _ (gZ _ _ _),x⟩))
noncomputable def jB (A:Au):Nat->List Int->List Int×List Int
 |0,h=>([],h)
 |_+1,[]=>([],[])
 |f+1,g::s=>if jJ A 0 (g::s) then ([],g::s) else ((fZ [A] (g::s)).2::(jB A f ((g::s).drop (fZ [A] (g::s)).1)).1,(jB A f ((g::s).drop (fZ [A] (g::s)).1)).2)
theorem wA (A:Au):∀(f:Nat) (s:List Int),s.length<=f->jB A f s=jB A s.length s
 |0,[],_=>rfl
 |f+1,[],_=>rfl
 |f+1,g::s,h=>by
  have b:=qa A (g::s) (fC _)
  have a:((g::s).drop (fZ [A] (g::s)).1).length<=s.length:=by rw [eA];exact eY (kh (fC _) b)
  show (if _ then _ else _)=(if _ then _ else _)
  rw [wA A f _ (a_ a (gL h)),wA A s.length _ a]
theorem vw (b:0<a8.length):jB t a8.length a8=if jJ t 0 a8 then ([],a8) else ((fZ [t] a8).2::(jB t (a8.drop (fZ [t] a8).1).length (a8.drop (fZ [t] a8).1)).1,(jB t (a8.drop (fZ [t] a8).1).length (a8.drop (fZ [t] a8).1)).2):=by
 induction a8 using el with
 |nil=>contradiction
 |cons g a8=>
  have a:=qa t (g::a8) (fC _)
  show (if _ then _ else ((fZ [t] (g::a8)).2::(jB t a8.length _).1,(jB t a8.length _).2))=_
  rw [wA t a8.length ((g::a8).drop (fZ [t] (g::a8)).1) (by rw [eA];exact eY (kh (fC _) a))]
theorem Ko (I:ng b o t) (E:t.Ok) (h:Bg b p d o a8) (R:eC b p) (H:a8.length<10000) (z:∀c u,eC b u->iT b u c (.list ((jB t (a8.length+1) (a8++[q])).1.map .int))->Bg b u d o (jB t (a8.length+1) (a8++[q])).2->n (.ref c) u):eF PG (a+8) (.fn 57) [.ref d,.int q] p n:=by
 have F:a8.length+1=(a8++[q]).length:=by rw [bh];rfl
 rw [F] at z
 obtain ⟨O,l,g,i,D,w⟩:=h
 refine gR [some (.ref d),some (.int q),none] (df 2 _) rfl rfl (qE (eP (a5 rfl) g rfl) i (by rw [bb];exact gH H (by unfold fG;decide)) (a5 rfl) λs1 u1=>sJ gS λc s2 j=>?_)
 have J:=u1.le R w
 have S:Bg b s1 d o (a8++[q]):=⟨O,l,(u1.ne d λky=>by rw [ky,i] at g;(injection g;contradiction)).trans g,by rw [u1.at_,b_];rfl,D,w⟩
 have M:=tH J j.le (j.own (ee _))
 have A:b c=none:=jH J j.fr
 refine oQ (a8++[q]).length (λN m u=>∃e k,N=e.length/\m=[some (.ref d),some (.int q),some (.ref c)]/\Bg (b.set c (.list (k.map .int))) u d o e/\eC (b.set c (.list (k.map .int))) u/\k.length+e.length<=10000/\k++(jB t e.length e).1=(jB t (a8++[q]).length (a8++[q])).1/\(jB t e.length e).2=(jB t (a8++[q]).length (a8++[q])).2)
  ⟨(a8++[q]),[],rfl,rfl,(S.with j.le (j.own (ee _))),M.2,(by rw [<-F,qL,i4];exact H),rfl,rfl⟩ ?_
 intro N m u kx K L;refine Aj kx λe k km ku P G B x C=>?_;subst km;subst ku
 obtain ⟨O,l,g,i,D,w⟩:=id P
 refine ei _ (DY (pB (Ja (eP (a5 rfl) g rfl) i)) λ_ T f=>yA (MY (aw:=jJ t 0 e) λn z=>ju (a5 rfl) (f _ _ g) rfl rfl rfl gS (DX (df 5 _) ⟨f _ _ g,f _ _ i,I.le (b4 (ki A) (b4 G f)),E⟩ (z _ _ (ee _) rfl)))) (λT f=>⟨λv=>?_,λv=>?_⟩)
 .rw [eW,fN,fN] at v
  have Q:0<e.length:=by
   clear I E R H z F u1 j J S M A L P G B x C g i D w f;induction e using el with
   |nil=>injection v.1
   |cons q U=>exact fC _
  have kn:Bg (b.set c (.list (k.map .int))) T d o e:=⟨O,l,f _ _ g,f _ _ i,D,w⟩
  have y:=b4 G f
  have kl:=y _ _ (gZ b c _)
  refine Np (a5 rfl) kl (ju (a5 rfl) (f _ _ g) rfl rfl rfl gS (I_ (a:=a+1) (I.le (b4 (ki A) y)) E kn y Q (a_ (df _ _) B) λkB W kq=>?_))
  refine Nn (W _ _ (gZ b c _)) (by rw [bb];exact c_ (a_ (eh _ _) B) (by unfold fG;decide)) λkz u4=>?_
  have hp:=qa t e Q
  refine iP (kq.upd W u4) λX Z=>?_
  have e1:k.map AV.int++[.int (fZ [t] e).2]=(k++[(fZ [t] e).2]).map .int:=by rw [b_];rfl
  rw [e1] at X Z
  have Y:(e.drop (fZ [t] e).1).length<e.length:=by rw [eA];exact kh Q hp
  rw [vw Q,v.2] at x C
  refine L _ _ _ Y ⟨_,_,rfl,rfl,X,Z,?_,(by rw [eE];exact x),C⟩
  rw [bh]
  exact a_ (a_ (gy (fK _ _ _)) (d7 (by rw [eZ];exact Y) _)) B
 .have V:jB t e.length e=([],e):=by
   clear I E R H z F u1 j J S M A L P G B x C g i D w f;induction e using el with
   |nil=>rfl
   |cons q U=>
    rw [vw (a8:=q::U) (fC _)]
    have:jJ t 0 (q::U)=true:=by
     rw [Bool.and_eq_false_iff] at v
     exact v.elim (λh=>by contradiction) λh=>by rwa [jP] at h
    rw [this];rfl
  rw [V,eT] at x
  rw [V] at C
  clear I E R H F u1 j J S M L P B v V;subst x C
  have y:=b4 G f
  exact iS (a5 rfl) (ei _ (ee _) (z c T (b4 (ki A) y) ⟨y _ _ (gZ _ _ _),A⟩ ⟨O,l,f _ _ g,f _ _ i,(vv D).2,(vv w).2⟩))
noncomputable def k7 (A:Au) (gs:List Int):List Int×List Int:=gs.foldl (λp g=>(p.1++(jB A (p.2.length+1) (p.2++[g])).1,(jB A (p.2.length+1) (p.2++[g])).2)) ([],[])
theorem vx (A:Au) (d:List Int) (g:Int):k7 A (d++[g])=((k7 A d).1++(jB A ((k7 A d).2.length+1) ((k7 A d).2++[g])).1,(jB A ((k7 A d).2.length+1) ((k7 A d).2++[g])).2):=by
 unfold k7;rw [iY];rfl
theorem CW (A:Au):∀(f:Nat) (s:List Int),(jB A f s).1.length+(jB A f s).2.length<=s.length
 |0,s=>by show 0+s.length<=_;rw [i4];exact eK _
 |f+1,[]=>eK _
 |f+1,g::s=>by
  show (ite _ _ _:List Int×List Int).1.length+(ite _ _ _:List Int×List Int).2.length<=_
  induction jJ A 0 (g::s) using j7 with
  |true=>show 0+_<=_;rw [i4];exact eK _
  |false=>
   have ih:=CW A f ((g::s).drop (fZ [A] (g::s)).1)
   have h1:=qa A (g::s) (fC _)
   show (jB A f _).1.length+1+(jB A f _).2.length<=_
   rw [eA] at ih
   rw [g5]
   exact a_ (fi ih) (kh (fC _) h1)
theorem Bh (A:Au) (a:List Int):(k7 A a).1.length+(k7 A a).2.length<=a.length:=by
 induction a using snoc_ind with
 |h0=>exact eK _
 |h1 d g b=>
  rw [vx,bh,bh,fK]
  refine a_ (d7 (CW _ _ _) _) ?_
  rw [bh,<-fK]
  exact gB b _
theorem F3 (a:List Int->Nat×Int):∀(f:Nat) (s:List Int),(iK a f s).length<=f
 |0,_=>eK _
 |_+1,[]=>fA _
 |f+1,g::s=>fi (F3 a f _)
theorem HS (h:∀f j,eC b j->Bg b j f d []->n (.ref f) j):eF PG (a+4) (.cls 7) [.ref d] b n:=by
 refine z1 rfl λk g s n1=>gR [some (.ref k),some (.ref d)] (df 2 _) rfl rfl (iu (a5 rfl _ (jd (o:=7) (I:=g) (aT:=[]) (a5 rfl) n1.at_ λr u2=>iu (sj gS λl q e=>jd (o:=7) (I:=g) (aT:=[(56,.ref d)]) (a5 rfl) (e.le _ _ u2.at_) λp i=>(gp _ (ee _) rfl ?_)))))
 have m:=u2.le n1.le n1.fr
 have o:=e.ne u2.at_
 exact h k p (i.le (b4 m e.le) n1.fr) ⟨g,l,i.at_,(i.ne l o.symm).trans e.at_,n1.fr,jH m e.fr⟩
theorem xN (c:aw=decide (aB<q)) (Q:Bool->Prop) (a:Q aw):pR b Q .gt (.int q) (.int aB):=.ord (congrArg some c.symm) a
theorem D9 (c:aw=decide (aB<=q)) (Q:Bool->Prop) (a:Q aw):pR b Q .ge (.int q) (.int aB):=.ord (congrArg some c.symm) a
theorem Nq (c:Ev j e b g (.bool aw)) (d:aw=true->Ev j e b D (.bool bO)):Ev j e b (.and g D) (.bool (aw&&bO)):=λQ a=>c _ (by
 clear c;induction aw with
 |true=>exact ei _ (.bool _) (d rfl _ a)
 |false=>exact (ei _ (.bool _) a))
theorem iT.base (h:iT ax p a av) (c:eC b ax):iT b p a av:=⟨h.at_,jH c h.fr⟩
theorem D' (hA:ng b d t) (hO:t.Ok) (hw:b o=some (.list (a7.map ig))) (hW:a7.length<=5) (hg:b I=some (.list (a8.map .int))) (U:a8.length<10000) (hH:∀i e,a8=i++e->(k7 t i).2=[]\/∃r∈a7,(k7 t i).2.length<r.1.length/\jv r.1 (k7 t i).2=true):
 Cl (eF PG (a+10)) (.fn 77) [.ref d,.ref o,.ref I] b (gQ b (((k7 t a8).1++iK (fZ [t]) (k7 t a8).2.length (k7 t a8).2).map .int)):=by
 refine jQ [some (.ref d),some (.ref o),some (.ref I),none,none,none,none] (df _ _) rfl rfl λk S R hR=>?_
 (injection S with S;subst S)
 refine jk (g8 d3 (iO (a5 rfl)) (HS (a:=a+5) λf s1 O M1=>sJ gS λc s2 y=>?_))
 have ky:=tH O y.le (y.own (ee _))
 refine oV (a5 rfl) (iL (.list I _) a8 .int (λQ=>gJ (y.le _ _ (O _ _ hg))) (λi m W=>∃c G X,m=[some (.ref d),some (.ref o),some (.ref I),some (.ref f),some (.ref c),G,X]/\b c=none/\eC (b.set c (.list ((k7 t i).1.map .int))) W/\Bg (b.set c (.list ((k7 t i).1.map .int))) W f d (k7 t i).2)
  (sA c _ _ rfl (jH O y.fr) ky.2 (M1.with y.le (y.own (ee _)))) (λi m W zf=>nc zf λc _ _ _ p x _=>x _ _ (ki p _ _ hg)) ?_ ?_)
 .intro i g r' m ku hd kx K hK;refine g6 m kx λc G X V H A=>?_
  have u:=ki (av:=.list ((k7 t i).1.map .int)) V
  have F:=Bh t i
  have kl:i.length<10000:=c_ (by rw [hd,bh];exact eh _ _) U
  obtain ⟨J,l,p,x,N,M⟩:=id A
  refine ei _ rfl (jk (wx (a5 rfl) (ju (a5 rfl) p rfl rfl rfl (iO (a5 rfl)) (Ko (a:=a+1) (hA.le u) hO A H (c_ (a_ (df _ _) F) kl) λc2 Z z T M4=>add_lists (z _ _ (gZ _ _ _)) T.at_ ?_ λE kn j=>?_))))
  .have:=Bh t (i++[g])
   rw [vx,bh,bh] at this
   rw [bb,bb]
   refine a_ (a_ (eh _ _) this) ?_
   exact a_ (nW kl) (by unfold fG;decide)
  rw [<-b_] at j
  have Y:=vx t i g
  have C:=hH (i++[g]) r' (by rw [hd,eE];rfl)
  rw [Y] at C
  generalize hq:jB t ((k7 t i).2.length+1) ((k7 t i).2++[g])=q at*
  have kq:=b4 u z
  have M5:Bg b Z f d q.2:=M4.base u
  have M6:=M5.with j.le (j.own (ee _))
  have b6:=tH kq j.le (j.own (ee _))
  obtain ⟨J,l,p,x,N,M⟩:=id M6
  have kG:=hK [some (.ref d),some (.ref o),some (.ref I),some (.ref f),some (.ref E),some (.int g),some (tI q.2)]
  refine yB (qq (gz d3 (iO (eP (a5 rfl) p rfl)) (n:=λv s=>v=tI q.2/\eC kn s) λQ hQ=>tuple_list (a:=a+8) x (hQ _ _ (ee _) ⟨rfl,ee _⟩)) λv s _ h=>h) λv kD L hv=>?_
  refine Qq v hv λ_=>?_
  have km:=b4 b6.2 L
  have kB:=km _ _ (b6.1 _ _ hw)
  refine pK (aw:=!decide (q.2=[])&&!a7.any (λr=>decide (r.1.length>q.2.length)&&jv r.1 q.2)) (DY (pB (f_ (M0 (bT:=[]) (a5 rfl) (g7 gS)))) λ_ kF l7=>yA (rQ (M9 (a:=a+8) (e9:=λr:Row=>decide (r.1.length>q.2.length)&&jv r.1 q.2) (tC _ (eB (rG hW)) (a5 rfl) (l7 _ _ kB) λr hr kC B=>
   (ei [none,some (tI r.1),some (.int r.2),some (tI q.2)] rfl (jK (Nq (fW (pC (a5 rfl)) (pC (a5 rfl)) (xN (decide_eq_decide.mpr ib.symm))) λ_=>A3 (rn (a5 rfl) (pC (a5 rfl))) (a5 rfl)) rfl))) λ_ _=>rfl))) λkC B=>⟨λD=>?_,λD=>hK _ _ (sA E _ _ rfl (jH kq j.fr) ?_ ?_)⟩
  .exfalso
   rw [eW,fN,fN,decide_eq_false_iff_not,nO] at D
   rcases C with C |⟨r,hr,h5,h6⟩
   .exact D.1 C
   .exact D.2 r hr (by rw [eW,decide_eq_true_iff];exact ⟨h5,h6⟩)
  .rw [Y];exact b4 km B
  .rw [Y];exact ⟨J,l,B _ _ (L _ _ p),B _ _ (L _ _ x),N,M⟩
 .intro m ku kz;refine g6 m kz λc G X V H A=>?_
  have u:=ki (av:=.list ((k7 t a8).1.map .int)) V
  have F:=Bh t a8
  obtain ⟨J,l,p,x,N,M⟩:=id A
  refine AX (wx (a5 rfl) (ju (a5 rfl) p rfl rfl rfl gS (F2 (a:=a+1) (hA.le u) hO A H (a_ (a_ (df _ _) F) (eB U)) λc2 Z z T=>add_lists (z _ _ (gZ _ _ _)) T.at_ ?_ λE kn j=>hR _ _ _ (b4 (b4 u z) j.le) ⟨E,rfl,?_,jH (b4 u z) j.fr⟩)))
  .rw [bb,bb]
   exact a_ (d7 (F3 _ _ _) _) (a_ F (eB (gH U (by unfold fG;decide))))
  .rw [j.at_,<-b_]
theorem PU (d:a7.Pairwise λa b=>a.1<b.1) (c:aQ.Pairwise λa b=>a.1<b.1) (h:∀r,r∈a7↔r∈aQ):a7=aQ:=by
 have e:∀{a7:List Row},(a7.Pairwise λa b=>a.1<b.1)->a7.Nodup:=λh=>mO (S:=λa b=>a≠b) (λ{a b} h q=>oj b.1 (by rw [q] at h;exact h)) h
 exact rD (λa b _ _ f g=>absurd (List.lt_trans f g) (oj _)) d c ((oi (e d) (e c)).mpr h)
theorem CX (c:a8.Nodup) (f:cu.Nodup) (h:∀g,g∈a8↔g∈cu):sortI a8=sortI cu:=
 rD (λa b _ _ d e=>vd d e) (sL a8) (sL cu) ((sortI_perm a8).trans (((oi c f).mpr h).trans (sortI_perm cu).symm))
theorem sQ (d:a7.Pairwise λa b=>a.1<b.1) (f:∀r∈a7,10<=r.2):([],q)∈a7↔q=sN a7/\sN a7≠-1:=by
 have h:=zp d f
 have e:([],q)∈a7↔([],q)∈a7.filter (λr=>r.1.isEmpty):=by rw [gC];exact ⟨λh=>⟨h,rfl⟩,λh=>h.1⟩
 rw [e,h]
 by_cases c:sN a7= -1
 .rw [if_pos c];exact ⟨(by intros;contradiction),λh=>absurd c h.2⟩
 .rw [if_neg c,dt,BM];exact ⟨λh=>⟨h.2,c⟩,λh=>⟨rfl,h.1⟩⟩
theorem oW (h:aD.lookup q=some a):(q,a)∈aD:=by
 refine Lr aD (gV.mp h) λc b _=>?_
 exact fU _ (.head _)
theorem tX.tJ (G:tX t ar) (b:a<t.steps.length):q∈(t.at a).map (·.1)↔after (ar a) q≠[]:=by
 refine ⟨(G.keys b).2 q,λh=>?_⟩
 refine kf (jc _ h) λr c=>?_
 exact (G.keys b).1 q r.1 r.2 (jX.mp c)
theorem tX.qQ (G:tX t ar) {n:Nat} (c:n<t.steps.length) (h:after (ar n) q≠[]):∃a,t.step n q=some a/\ar a=after (ar n) q/\a<t.steps.length:=by
 induction b:t.step n q with
 |none=>exact absurd (G.stop n q c b) h
 |some a=>exact gp a rfl (G.step n q a c b).1 (oh G.ok b)
noncomputable abbrev zH:=Int×List (Int×Nat)
noncomputable def pD (A:Au) (h:Nat->Nat) (n:Nat):zH:=(A.end n,(sortI ((A.at n).map (·.1))).map λg=>(g,h ((A.step n g).getD 0)))
noncomputable def RZ (A:Au):Prop:=∀n p,p∈A.at n->n<p.2
noncomputable def Wb (A:Au) (L:Nat->List Row) (i:Nat) (h:Nat->Nat):Prop:=∀n m,i<=n->n<A.steps.length->i<=m->m<A.steps.length->(h n=h m↔L n=L m)
theorem CY (G:tX t ar) (m:RZ t) (y:Wb t ar a aO) (f:d<t.steps.length) (c:o<t.steps.length) (I:a<=d+1) (F:a<=o+1) (e:pD t aO d=pD t aO o):∀u∈ar d,u∈ar o:=by
 have q:t.end d=t.end o:=congrArg (·.1) e
 have H:=congrArg (·.2) e
 intro A b;obtain ⟨w,l⟩:=A
 induction w using el with
 |nil=>
  rw [sQ (G.CV d f) (G.HJ d f),<-G.fin d f] at b
  rw [sQ (G.CV o c) (G.HJ o c),<-G.fin o c,<-q]
  exact b
 |cons g w=>
  have b:=jX (bj:=(w,l)).mpr b
  refine gi (G.qQ f (rI b)) λh k z J=>?_
  have v:=(G.tJ f).mpr (rI b)
  have p:(g,aO h)∈(pD t aO d).2:=ck.mpr (ei g (ir.mpr v) (by rw [k];rfl))
  rw [H] at p
  refine eS (ck.mp p) λL C j=>?_
  cases (l_ j).1
  have D:=(G.tJ c).mp (ir.mp C)
  refine gi (G.qQ c D) λi n s K=>?_
  have x:aO i=aO h:=by have:=(l_ j).2;rwa [n] at this
  have B:=m d (g,h) (oW k)
  have E:=m o (g,i) (oW n)
  have:=(y i h (a_ F E) K (a_ I B) J).mp x
  exact jX.mp (by rw [<-s,this,z];exact b)
theorem Nr (G:tX t ar) (f:RZ t) (h:Wb t ar a aO) (c:d<t.steps.length) (b:o<t.steps.length) (j:a<=d+1) (i:a<=o+1):pD t aO d=pD t aO o↔ar d=ar o:=by
 refine ⟨λe=>PU (G.CV d c) (G.CV o b) λr=>⟨CY G f h c b j i e r,CY G f h b c i j e.symm r⟩,λe=>?_⟩
 unfold pD
 have s:sortI ((t.at d).map (·.1))=sortI ((t.at o).map (·.1)):=CX (G.ok.rR d) (G.ok.rR o) λg=>by rw [G.tJ c,G.tJ b,e]
 rw [G.fin d c,G.fin o b,s,e]
 refine congrArg _ (fo λg v=>?_)
 have l:=(G.tJ b).mp (ir.mp v)
 refine gi (G.qQ b l) λp k w x=>?_
 refine gi (G.qQ (n:=d) c (by rw [e];exact l)) λq m u y=>?_
 rw [k,m]
 exact congrArg _ ((h q p (a_ j (f d (g,q) (oW m))) y (a_ i (f o (g,p) (oW k))) x).mpr (by rw [w,u,e]))
structure F4 (A:Au) (L:Nat->List Row) (i:Nat) (h:Nat->Nat) (K:List (zH×Nat)):Prop where
 rg:∀n,i<=n->n<A.steps.length->i<=h n/\h n<A.steps.length/\L (h n)=L n
 ok:Wb A L i h
 kr:∀q∈K,i<=q.2/\q.2<A.steps.length/\q.1=pD A h q.2/\h q.2=q.2
 kc:∀n,i<=n->n<A.steps.length->pD A h n∈K.map (·.1)
theorem Bi (G:tX t ar) (f:RZ t) (i:a<=d):pD t (λx=>if x=a then o else aO x) d=pD t aO d:=by
 unfold pD
 refine congrArg _ (fo λg h=>?_)
 have e:=nT.mpr (ir.mp h)
 induction c:t.step d g with
 |none=>rw [show (t.at d).lookup g=none from c] at e;contradiction
 |some b=>
  have:=f d (g,b) (oW c)
  show (g,if b=a then o else aO b)=_
  rw [if_neg (show ¬b=a from λq=>jm d (ej (q▸this) i))];rfl
variable {cP:List (zH×Nat)}
theorem F4.step (G:tX t ar) (o:RZ t) {u:List (zH×Nat)} (H:F4 t ar (a+1) aO cP) (r:a<t.steps.length) (i:(u=cP/\(pD t aO a,d)∈cP)\/(pD t aO a∉cP.map (·.1)/\u=cP++[(pD t aO a,a)]/\d=a)):F4 t ar a (λx=>if x=a then d else aO x) u:=by
 have h:∀{n},a<=n->n≠a->a+1<=n:=λf g=>nu f λq=>g q.symm
 have w:∀m,a+1<=m->m<t.steps.length->(pD t aO a=pD t aO m↔ar a=ar m):=λm f g=>Nr G o H.ok r g (eK _) (f5 f)
 have k:a<=d/\d<t.steps.length/\ar d=ar a/\∀m,a+1<=m->m<t.steps.length->(d=aO m↔ar a=ar m):=by
  clear G o h;rcases i with ⟨_,s⟩ |⟨C,_,rfl⟩
  .refine wY (H.kr _ s) λl b c v=>?_
   have e:=(w d l b).mp c
   refine uz (nX l) b e.symm (λm f g=>?_)
   rw [e,<-H.ok d m l b f g,show aO d=d from v]
  .refine uz (eK _) r rfl (λm f g=>⟨λq=>?_,λq=>?_⟩)
   .exact absurd ((H.rg m f g).1) (by rw [<-q];exact Jy _)
   .exact absurd (H.kc m f g) (by rw [<-(w m f g).mpr q];exact C)
 have y:∀q∈u,q∈cP\/q=(pD t aO a,a)/\d=a:=λq p=>by
  rcases i with ⟨rfl,_⟩ |⟨_,rfl,i⟩
  .exact .inl p
  .exact (eG.mp p).imp id λaO=>⟨dt.mp aO,i⟩
 refine ⟨λn f g=>?_,λn m f g B A=>?_,λq p=>?_,λn f g=>?_⟩
 .by_cases e:n=a
  .rw [if_pos e,e];exact iD k.1 k.2.1 k.2.2.1
  .rw [if_neg e]
   have:=H.rg n (h f e) g
   exact ⟨nX this.1,this.2⟩
 .by_cases e:n=a
  .by_cases j:m=a
   .rw [e,j];exact ⟨λ_=>rfl,λ_=>rfl⟩
   .show (if n=a then d else aO n)=(if m=a then d else aO m)↔_
    rw [if_pos e,if_neg j,e];exact k.2.2.2 m (h B j) A
  .show (if n=a then d else aO n)=(if m=a then d else aO m)↔_
   rw [if_neg e]
   by_cases j:m=a
   .rw [if_pos j,j]
    exact ⟨λq=>((k.2.2.2 n (h f e) g).mp q.symm).symm,λq=>((k.2.2.2 n (h f e) g).mpr q.symm).symm⟩
   .rw [if_neg j];exact H.ok n m (h f e) g (h B j) A
 .rcases y q p with p |⟨rfl,i⟩
  .refine wY (H.kr q p) λl b c v=>?_
   have z:=nX l
   refine uz z b (by rw [Bi G o z];exact c) ?_
   show (if q.2=a then d else aO q.2)=_
   rw [if_neg (show ¬q.2=a from λe=>Jy a (e▸l))];exact v
  .exact uz (eK _) r (Bi G o (eK _)).symm ((if_pos rfl).trans i)
 .rw [Bi G o f]
  clear G o r w k y;by_cases e:n=a
  .rw [e]
   clear H h f g e;rcases i with ⟨rfl,s⟩ |⟨_,rfl,_⟩
   .exact ck.mpr (ei _ s rfl)
   .rw [b_];exact fU _ (.head _)
  .have:=H.kc n (h f e) g
   clear H h f g e;rcases i with ⟨rfl,s⟩ |⟨_,rfl,_⟩
   .exact this
   .rw [b_];exact fS _ this
noncomputable def sl (k:Nat):AV:=.int k
noncomputable def Jb (p:Int×Nat):AV:=.tup [.int p.1,.int p.2]
noncomputable def Ow (q:zH):AV:=.tup [.int q.1,.tup (q.2.map Jb)]
noncomputable def QR (K:List (zH×Nat)):List (AV×AV):=K.map λq=>(Ow q.1,.int q.2)
theorem xO (d:∀a b,dE a=dE b->a=b):∀{l k:List h},l.map dE=k.map dE->l=k
 |[],[],_=>rfl
 |x::l,y::k,c=>by rw [eI,eI,iA] at c;rw [d _ _ c.1,xO d c.2]
 |[],_::_,c=>nomatch c
 |_::_,[],c=>nomatch c
theorem PV (p q:zH) (h:Ow p=Ow q):p=q:=by
 have c:=AV.tup.inj h
 have f:=(ft c).1
 have g:=AV.tup.inj (ft (ft c).2).1
 refine Qj (AV.int.inj f) (xO (λa b e=>?_) g)
 have d:=AV.tup.inj e
 exact Qj (AV.int.inj (ft d).1) (rE (AV.int.inj (ft (ft d).2).1))
theorem Jc (c:oR a i) (d:oR a af):oR (a+1) (.tup [i,af]):=.tup _ _ λx b=>by
 cases b with
 |head=>exact c
 |tail _ b=>
  cases b with
  |head=>exact d
  |tail _ b=>exact (eg b).elim
theorem Jd (q:zH):JF (Ow q):=⟨⟨_,rfl⟩,Jc (.int _ _) (.tup _ _ λx a=>by
 refine iQ x (ck.mp a) λp _=>?_
 exact Jc (.int _ _) (.int _ _))⟩
theorem D_ (q:zH) (K:List (zH×Nat)):te (Ow q) (QR K):=.inr ⟨Jd q,λp a=>by
 refine iQ p (ck.mp a) λx _=>?_;exact Jd _⟩
theorem Je {q:zH}:Ow q∈(QR cP).map (·.1)↔q∈cP.map (·.1):=by
 unfold QR
 rw [ew,ck,ck]
 exact ⟨λb=>eS b λx a e=>(ei x a (PV _ _ e)),λb=>eS b λx a e=>(ei x a (congrArg Ow e))⟩
theorem yJ (h:VE PG j g e b λv b=>VE PG j D e b λw b=>Am b n bN v w):VE PG j (.bin bN g D) e b n:=h
theorem mul_list (i:b a=some (.list l)) (g:d<=fG) (f:l.length*d<=fG) (h:∀c e,rh b e c (.list (gn d l).flatten)->n (.ref c) e):Am b n .mul (.ref a) (.int d):=.rep i g f λc j=>h c _ (fM j)
theorem Bj (x:h):∀k:Nat,(gn k [x]).flatten=gn k x
 |0=>rfl
 |k+1=>by rw [wI,Le,Bj x k];rfl
theorem Kp (c:bK .pZ ((eR a).map λk=>.int ((a:Int) -1 - (k:Nat)))):om b bK (.pZ ((a:Int) -1) (-1) (-1)):=.pZ (by
 unfold xa
 rw [if_neg (by decide),if_pos rfl,Xy]) c
theorem Ea (k:Ev j e b g i) (d:Ev j e b D (.ref a)) (c:b a=some (.dict aC)) (h:te i aC) (f:aw=true↔i∈aC.map (·.1)):Tv j e b (.cmp g .Ck D) (!aw):=
 f_ (fW k d λQ l=>.Ck (.dict c h _ f) l)
variable {bU:List Nat}
theorem rq (h:eR a=C++d::bU):d=C.length/\C.length<a:=by
 have c:=congrArg fk h
 rw [fg,bh,ff] at c
 have b:(eR a)[C.length]? =some d:=by rw [h];simp
 have e:C.length<a:=by rw [c];exact gm (fC _)
 rw [jy e] at b
 exact ⟨(d5 b).symm,e⟩
theorem Nt (b:a<C.length) (x:Nat):(C.set a d).getD x 0=if x=a then d else C.getD x 0:=by
 rw [ec,ec,nN]
 by_cases h:x=a
 .rw [if_pos h,if_pos h.symm,if_pos b];rfl
 .rw [if_neg h,if_neg λq=>h q.symm]
theorem HT (b:a<C.length):(C.map sl)[a]? =some (.int (C.getD a 0:Nat)):=by
 rw [ed,ec,dj b];rfl
theorem HU (h:ng b d t) (G:tX t ar) (hF:RZ t) (h5:∀i,(t.at i).length<=5) (hc:t.steps.length<=1000) (hP:∀D (c:List Nat) K f,eC b f->f D=some (.list (c.map sl))->c.length=t.steps.length->F4 t ar 0 (λx=>c.getD x 0) K->Cl (eF PG (a+5)) (.fn 60) [.ref d,.ref D] f n):Cl (eF PG (a+6)) (.fn 59) [.ref d] b n:=by
 refine jQ [some (.ref d),none,none,none,none,none] (df _ _) rfl rfl λkx hk R hR=>?_
 (injection hk with hk;subst hk)
 have km:∀(m:MM) f,m[0]? =some (some (.ref d))->eC b f->Ev (eF PG (a+5)) m f (.fO (.var 0) 9 .nil) (.int t.steps.length):=λm f hm D Q hQ=>by
  obtain ⟨dx,l,e,ds,E⟩:=id h
  exact ju (a5 hm) (D _ _ E.obj) rfl rfl rfl gS (sI (df 4 _) (h.le D) hQ)
 refine jk (yJ (sj (iO d3) λc0 s1 n1=>km _ _ rfl n1.le _ (mul_list n1.at_ (a_ hc (by unfold fG;decide)) (by rw [je,UW];exact a_ hc (by unfold fG;decide)) λc1 s2 J=>zm λc2 s3 S=>?_)))
 have kl:=b4 n1.le (b4 J.le S.le)
 have kG:=S.ne J.at_
 obtain ⟨dx,l,e,ds,E⟩:=id h
 rw [Bj] at J
 refine A7 (g8 d3 (vH (ie (km _ _ rfl kl) d3 rfl) (wq d3) (wq d3)) (jM (ei [(t.steps.length:Int) -1,-1,-1] rfl (.down ⟨Sq hc,by decide,?_⟩))))
 refine iL .pZ (eR t.steps.length) (λkx=>.int ((t.steps.length:Int) -1 - (kx:Nat))) (λQ=>Kp) (λp m f=>eC b f/\(∃(c:List Nat) (K:List (zH×Nat)),iT b f c1 (.list (c.map sl))/\iT b f c2 (.dict (QR K))/\K.length<=p.length/\c.length=t.steps.length/\F4 t ar (t.steps.length -p.length) (λx=>c.getD x 0) K)/\∃w3 F U,m=[some (.ref d),some (.ref c1),some (.ref c2),w3,F,U])
  (ve kl ⟨gn t.steps.length 0,[],?_,S.own (b4 n1.le J.le),eK _,p3,?_⟩ _ _ _ rfl) (λ_ _ _ _=>trivial) ?_ ?_
 .rw [xY]
  exact (J.own n1.le).le S.le
 .have kn:∀x,t.steps.length - ([]:List Nat).length<=x->x<t.steps.length->False:=λx z r=>jm x (ej r z)
  exact ⟨λx z r=>(kn x z r).elim,λx y z r=>(kn x z r).elim,(by intros;contradiction),λx z r=>(kn x z r).elim⟩
 .intro p y r' m kq hd kC K' kB;refine vg m kC λC B w3 F U=>?_;refine gv B λc K w u W N H=>?_
  refine iP (rq hd) λB Y=>?_;clear hP hR km n1 S kl J hd kC;subst B
  have kP:t.steps.length -p.length=(t.steps.length - (p.length+1))+1:=by exact Ol (d:=0) (i5 Y)
  rw [kP] at H
  have kV:((t.steps.length:Int) -1 - (p.length:Nat))=((t.steps.length - (p.length+1):Nat):Int):=cs Y
  rw [kV]
  have V:t.steps.length - (p.length+1)<t.steps.length:=by exact kh (c_ (fA _) Y) (fC _)
  have kK:∀g,t.steps.length - (p++[p.length]).length=t.steps.length - (p.length+1):=λg:Nat=>by rw [bh];rfl
  rw [kK 0] at kB
  generalize t.steps.length - (p.length+1)=i at*
  refine eS (E.dict V) λdd kX ku=>?_
  have kI:∀{X:zU} {m:MM} {f:AS} {ky O:Nat},eC b f->m[ky]? =some (some (.ref d))->m[O]? =some (some (.int i))->Ev X m f (.sub (.attr (.var ky) 32) (.var O)) (.ref dd):=λD hm T=>fy (eP (a5 hm) (D _ _ E.obj) rfl) (D _ _ E.steps) (a5 T) kX
  have kM:∀s:List (Int×Nat),(dV s).map (·.1)=(s.map (·.1)).map AV.int:=λs=>by unfold dV;rw [ew,ew];rfl
  have kz:((t.at i).map (·.1)).length<=5:=by rw [bb];exact h5 i
  refine ei [some (.ref d),some (.ref c1),some (.ref c2),some (.int i),F,U] rfl (yB (p7 (a:=a+4) (n:=λo _=>o= .tup ((pD t (λx=>c.getD x 0) i).2.map Jb)) (qq (xF (λg=>Jb (g,c.getD ((t.step i g).getD 0) 0)) (eB (rG (by rw [(sortI_perm _).length_eq];exact kz))) (gz d3 (iO (kI C rfl rfl)) (sM (a:=a+4) (q_ (C _ _ ku) (nS _)|>λh Q hQ=>h Q (by rw [kM];exact hQ)) kz)) λg hg kF A=>?_) λo s _ L=>?_) λ_ _=>rfl) λo kF A L=>?_)
  .have z:=nT.mpr (ir.mp hg)
   induction r:t.step i g with
   |none=>rw [show (t.at i).lookup g=none from r] at z;contradiction
   |some kY=>
    have ht:=oh G.ok r
    refine ei [none,some (.int g),some (.ref c1),some (.int i),some (.ref d)] rfl (jK (g7 (iR (a5 rfl) (fy (a5 rfl) (A _ _ w.at_) (sg (kI (ky:=4) (O:=3) (b4 C A) rfl rfl) (b4 C A _ _ ku) (a5 rfl) (.inl ⟨⟨_,rfl⟩,nS _⟩) (rP r)) (HT (N▸ht))))) rfl)
  .rw [show (pD t (λx=>c.getD x 0) i).2.map Jb=_ from ew ..];exact L
  subst L
  have Z:=b4 C A
  refine g_ (i:=Ow (pD t (λx=>c.getD x 0) i)) (g7 (iR (fy (eP (a5 rfl) (Z _ _ E.obj) rfl) (Z _ _ E.ends) (a5 rfl) (vo G.ok V)) (a5 rfl))) ?_
  have w:=w.le A
  have u:=u.le A
  refine yE (λm f=>eC b f/\(∃I o,iT b f c1 (.list (c.map sl))/\iT b f c2 (.dict (QR I))/\I.length<=p.length+1/\(pD t (λx=>c.getD x 0) i,o)∈I/\((I=K/\(pD t (λx=>c.getD x 0) i,o)∈K)\/(pD t (λx=>c.getD x 0) i∉K.map (·.1)/\I=K++[(pD t (λx=>c.getD x 0) i,i)]/\o=i)))/\∃F,m=[some (.ref d),some (.ref c1),some (.ref c2),some (.int i),F,some (Ow (pD t (λx=>c.getD x 0) i))]) (λK3 kD=>yF (Ea (a5 rfl) (a5 rfl) u.at_ (D_ _ _) (decide_eq_true_iff.trans Je.symm) _ ?_)) ?_
  .by_cases M:pD t (λx=>c.getD x 0) i∈K.map (·.1)
   .rw [decide_eq_true M]
    refine eS (ck.mp M) λB T e=>?_;obtain ⟨O,o⟩:=B
    subst e
    exact kD _ _ ⟨Z,⟨K,o,w,u,f5 W,T,.inl ⟨rfl,T⟩⟩,_,rfl⟩
   .rw [decide_eq_false M]
    refine wz (a5 rfl) (a5 rfl) u.at_ (a5 rfl) (D_ _ _) (by unfold QR;rw [bb];exact c_ (a_ W (a_ (eB Y) hc)) (by unfold fG;decide)) λkJ u6=>kD _ _ ⟨(u6.le Z u.fr),⟨K++[(pD t (λx=>c.getD x 0) i,i)],i,w.keep u6 kG,?_,by rw [bh];exact fi W,fU _ (.head _),.inr ⟨M,rfl,rfl⟩⟩,_,rfl⟩
    have:=u6.own (s0:=b) u.fr
    rw [j2 (λO=>M (Je.mp O))] at this
    rw [show QR (K++[(pD t (λx=>c.getD x 0) i,i)])=QR K++[(Ow (pD t (λx=>c.getD x 0) i),.int i)] from b_ ..]
    exact this
  .intro m kJ kU;refine Lq m kU λkO B F=>?_;refine gv B λI o w u kT kN kQ=>?_
   have kH:i<c.length:=N▸V
   refine A6 (i:=.int o) (sg (a5 rfl) u.at_ (a5 rfl) (D_ _ _) (ck.mpr (ei _ kN rfl))) (a5 rfl) w.at_ (a5 rfl) (by rw [bb];exact kH) λkZ u7=>kB _ _ (ve (u7.le kO w.fr) ⟨c.set i o,I,?_,u.keep u7 kG.symm,by rw [bh];exact kT,by rw [gK];exact N,?_⟩ _ _ _ rfl)
   .rw [GK];exact u7.own w.fr
   .rw [show (λx=>(c.set i o).getD x 0)=λx=>if x=i then o else c.getD x 0 from funext λx=>Nt kH x]
    exact H.step G hF V kQ
 .intro m kq kW;refine vg m kW λC B w3 F U=>?_;refine gv B λc K w u W N H=>?_
  rw [fg,jE] at H
  exact si (gz d3 (iR (a5 rfl) (a5 rfl)) (hP c1 c K kq C w.at_ N H)) λo kF A L=>hR _ _ _ (b4 C A) L
noncomputable def nU (j:Nat):Nat->List Nat->Option Nat
 |k,[]=>some k
 |k,t::ts=>if k<=j\/k<t then none else nU j (max k (t+1)) ts
noncomputable def pV:Nat->Nat->List (List (Int×Nat))->Option Nat
 |k,_,[]=>some k
 |k,j,s::S=>(nU j k (s.map (·.2))).bind λk'=>pV k' (j+1) S
theorem F5 (j t:Nat):∀(b:List Nat) (k:Nat),nU j k (b++[t])=(nU j k b).bind λa=>if a<=j\/a<t then none else some (max a (t+1)):=by
 intro d
 induction d with
 |nil=>
  intro k
  exact rfl
 |cons u b c=>
  intro k
  show (if _ then _ else _)=(if _ then _ else _:Option Nat).bind _
  by_cases h:k<=j\/k<u
  .rw [if_pos h,if_pos h];rfl
  .rw [if_neg h,if_neg h];exact c _
theorem F6 (s:List (Int×Nat)):∀(S:List (List (Int×Nat))) (k j:Nat),pV k j (S++[s])=(pV k j S).bind λa=>nU (j+S.length) a (s.map (·.2)):=by
 intro c
 induction c with
 |nil=>
  intro k j
  show (nU j k _).bind (λa=>some a)=nU (j+0) k _
  cases nU j k (s.map (·.2))<;>rfl
 |cons u S b=>
  intro k j
  show (nU j k _).bind (λa=>pV a (j+1) (S++[s]))=((nU j k _).bind λa=>pV a (j+1) S).bind _
  induction nU j k (u.map (·.2)) using d_ with
  |none=>rfl
  |some a=>
   show pV a (j+1) (S++[s])=(pV a (j+1) S).bind _
   rw [b,ff,fK,eZ 1]
structure F7 (A:Au) (h:Nat->Nat) (o:List Nat) (x:Nat) (D:List Int) (s:List (Int×Nat)):Prop where
 keys:s.map (·.1)=D
 to:∀p∈s,∃c,A.step x p.1=some c/\o[p.2]? =some (h c)
structure Br (A:Au) (L:Nat->List Row) (h:Nat->Nat) (o:List Nat) (S:List (List (Int×Nat))) (es:List Int):Prop where
 o0:o[0]? =some (h 0)
 nd:o.Nodup
 rep:∀x∈o,x<A.steps.length/\h x=x/\∃u,L x=gI (L 0) u/\(u=[]\/L x≠[])
 le:S.length<=o.length
 row:∀(j:Nat) s x,S[j]? =some s->o[j]? =some x->F7 A h o x (sortI ((A.at x).map (·.1))) s
 es:es=(o.take S.length).map A.end
theorem F7.more (r:F7 t aO C a a8 aD) (y:List Nat):F7 t aO (C++y) a a8 aD:=⟨r.keys,λp e=>eS (r.to p e) λc d b=>(ei c d (by rw [eO (gA b)];exact b))⟩
theorem Br.more (b:Br t ar aO C aP a8) (g:a∉C) (h:a<t.steps.length/\aO a=a/\∃u,ar a=gI (ar 0) u/\(u=[]\/ar a≠[])):Br t ar aO (C++[a]) aP a8 where
 o0:=by rw [eO (gA b.o0)];exact b.o0
 nd:=eQ.mpr ⟨b.nd,eU.mpr ⟨eg,eH⟩,λl i c k q=>g (by rw [<-dt.mp k,<-q];exact i)⟩
 rep y d:=(eG.mp d).elim (b.rep y) λd=>by rw [dt.mp d];exact h
 le:=by rw [bh];exact f5 b.le
 row j s y e d:=by
  have f:=ej (gA e) b.le
  rw [eO f] at d
  exact (b.row j s y e d).more _
 es:=by rw [List.take_append_of_le_length b.le];exact b.es
theorem Br.push (b:Br t ar aO C aP a8) (e:C[aP.length]? =some a) (g:F7 t aO C a (sortI ((t.at a).map (·.1))) aD):Br t ar aO C (aP++[aD]) (a8++[t.end a]) where
 o0:=b.o0
 nd:=b.nd
 rep:=b.rep
 le:=by rw [bh];exact gA e
 row j i y c d:=by
  rcases ke j aP.length with h |f
  .rw [eO h] at c;exact b.row j i y c d
  .rw [fm f] at c
   have k:j=aP.length:=by
    have:=gA c
    rw [je] at this
    exact iw (nK (i7.mp this)) f
   clear b f;subst k
   rw [jE] at c
   (injection c with c;subst c)
   rw [e] at d;(injection d with d;subst d)
   exact g
 es:=by rw [bh,b.es,je,Ld,e,b_];rfl
theorem Br.x8 (G:tX t ar) (E:∀n,n<t.steps.length->aO n<t.steps.length/\ar (aO n)=ar n) (b:Br t ar aO C aP a8) (y:aP.length=C.length):tX ⟨aP,a8⟩ (λj=>ar (C.getD j 0)):=by
 have l:∀j,j<aP.length->∃x s,C[j]? =some x/\aP[j]? =some s/\(⟨aP,a8⟩:Au).at j=s/\C.getD j 0=x/\x<t.steps.length/\F7 t aO C x (sortI ((t.at x).map (·.1))) s:=λj a=>by
  have A:j<C.length:=y▸a
  have u:=dj a
  have z:=dj A
  refine n7 _ _ z u ?_ ?_ (b.rep _ (fP A)).1 (b.row j _ _ u z)
  .show aP.getD j []=_
   rw [ec,u];rfl
  .rw [ec,z];rfl
 have H:a8.length=aP.length:=by rw [b.es,bb,fT,j5 b.le]
 have F:∀j g o,j<aP.length->(⟨aP,a8⟩:Au).step j g=some o->∃x c,C.getD j 0=x/\x<t.steps.length/\t.step x g=some c/\C[o]? =some (aO c):=λj g o a e=>by
  refine iW (l j a) λx s k m i f d h=>?_
  unfold Vt at e
  rw [i] at e
  refine eS (h.to (g,o) (oW e)) λc r q=>?_
  exact pk x c f d r q
 refine ⟨QP H ?_ (λj p v=>?_) λj=>?_,λj a=>?_,λj g o a e=>?_,λj g a e=>?_,λj a=>?_,λj a=>?_⟩
 .show 0<aP.length
  rw [y];exact gA b.o0
 .refine iP (wy v) λa _=>?_
  refine iW (l j a) λx s k m i f d h=>?_
  rw [i] at v
  refine eS (h.to p v) λc r q=>?_
  show p.2<aP.length
  rw [y];exact gA q
 .by_cases a:j<aP.length
  .refine iW (l j a) λx s k m i f d h=>?_
   rw [i,h.keys]
   exact (sortI_perm _).symm.nodup (G.ok.rR x)
  .rw [show (⟨aP,a8⟩:Au).at j=[] from yH a];exact eH
 .refine iW (l j a) λx s k m i f d h=>?_
  rw [f,<-G.fin x d]
  show a8.getD j (-1)=_
  rw [ec,b.es,ed,EC a,k];rfl
 .refine nZ (F j g o a e) λx c f d r q=>?_
  have w:=G.step x g c d r
  rw [f,<-w.1,ec,q]
  have D:=(E c (oh G.ok r)).2
  exact ⟨D,by rw [w.1];exact w.2⟩
 .refine iW (l j a) λx s k m i f d h=>?_
  rw [f]
  have B:g∉s.map (·.1):=by
   unfold Vt at e
   rw [i] at e
   exact lookup_none e
  rw [h.keys,ir,G.tJ d] at B
  exact gj B
 .refine iW (l j a) λx s k m i f d h=>?_
  rw [f];exact G.CV x d
 .refine iW (l j a) λx s k m i f d h=>?_
  rw [f];exact G.HJ x d
noncomputable def QS (o:List Nat):List (AV×AV):=o.mapIdx λ(j x:Nat)=>(.int x,.int j)
theorem Nu (o:List Nat) (x:Nat):QS (o++[x])=QS o++[(.int x,.int o.length)]:=KW
theorem Jf (h:C[a]? =some d):(AV.int d,AV.int a)∈QS C:=by
 obtain ⟨b,c⟩:=ey.mp h
 exact pb.mpr ⟨a,b,by rw [c]⟩
theorem Eb (o:List Nat):IntKeys (QS o):=λp a=>by
 obtain ⟨i,b,rfl⟩:=pb.mp a;exact ⟨_,rfl⟩
theorem F8:AV.int a∈(QS C).map (·.1)↔a∈C:=by
 constructor
 .intro h
  refine eS (ck.mp h) λp c e=>?_
  obtain ⟨i,b,rfl⟩:=pb.mp c
  have:C[i]=a:=rE (AV.int.inj e)
  exact this▸fP b
 .intro h
  obtain ⟨t,d⟩:=e_.mp h
  exact ck.mpr (ei _ (Jf d) rfl)
theorem PW (f:∀s,Ev j e s g (.ref o)) (n:b o=some (.inst I ak aT)) (h:∀c1 c2 l k c m,rh b l c1 (.list [])->rh l k c2 (.list [])->Upd k c o (.inst I ak (iB aT a (.ref c1)))->Upd c m o (.inst I ak (iB (iB aT a (.ref c1)) d (.ref c2)))->js PG j ah e m ag):
 js PG j (.cons (.EX g a g d (.tup (.cons (.lst .nil) (.cons (.lst .nil) .nil)))) ah) e b ag:=by
 intro c1 q c2 p
 have n1:=fM (av:=.list []) q
 have i:=fM (av:=.list []) p
 exact nE _ _ rfl (f _ _ (.mk (i.le _ _ (n1.le _ _ n)) (f _ _ (.mk (gZ _ _ _) (h c1 c2 _ _ _ _ n1 i pA pA)))))
theorem Ov.upd {l:Nat} {o:AO} (h:Ov b p a d l I C t) (u:Upd p ax ak o) (k:a≠ak) (j:l≠ak) (g:I≠ak) (f:ak∉C):Ov b ax a d l I C t:=
 ⟨(u.ne a k).trans h.obj,(u.ne l j).trans h.steps,(u.ne I g).trans h.ends,h.len,λi e c=>(u.ne e λq=>f (q▸fj c)).trans (h.dict i e c),h.nd,h.ne,h.fl,h.fe,h.fd⟩
theorem Ov.le (h:Ov b p a d o I C t) (c:eC p ax):Ov b ax a d o I C t:=
 ⟨c _ _ h.obj,c _ _ h.steps,c _ _ h.ends,h.len,λi e I=>c _ _ (h.dict i e I),h.nd,h.ne,h.fl,h.fe,h.fd⟩
structure GR (s0 st:AS) (c2 c3 t dx l e:Nat) (ds:List Nat) (o:List Nat) (S:List (List (Int×Nat))) (es:List Int):Prop where
 le:eC s0 st
 ord:iT s0 st c2 (.list (o.map sl))
 pl:iT s0 st c3 (.dict (QS o))
 au:Ov s0 st t dx l e ds ⟨S,es⟩
 n1:l≠c2
 n2:e≠c2
 n3:c3∉ds
theorem GR.grow (h:GR b p a d o I ak aI C bU aP a8) (c:eC p ax):GR b ax a d o I ak aI C bU aP a8:=
 ⟨b4 h.le c,h.ord.le c,h.pl.le c,h.au.le c,h.n1,h.n2,h.n3⟩
theorem oo (h:b a=some av) (c:b a=some bF):av=bF:=d5 (h.symm.trans c)
theorem GR.goal {k:AS} (h:GR b p a d o I ak aI C bU aP a8) (f:Upd p ax d (.dict (QS (bU++[bc])))) (c:Upd ax k a (.list ((bU++[bc]).map sl))):GR b k a d o I ak aI C (bU++[bc]) aP a8:=by
 have s:d≠a:=λq=>by have:=h.ord.at_;rw [<-q,h.pl.at_] at this;(injection this;contradiction)
 have e:∀{g j},p g=some j->(∀t,j≠.dict t)->g≠d:=λaI m q=>m _ (oo aI (q▸h.pl.at_))
 have l:=h.au.upd f (e h.au.obj (by (repeat intro _);contradiction)) (e h.au.steps (by (repeat intro _);contradiction)) (e h.au.ends (by (repeat intro _);contradiction)) h.n3
 refine ⟨c.le (f.le h.le h.pl.fr) h.ord.fr,c.own h.ord.fr,(f.own h.pl.fr).keep c s,l.upd c (λq=>?_) h.n1 h.n2 (λr=>?_),h.n1,h.n2,h.n3⟩
 .have:=oo h.au.obj (q▸h.ord.at_);contradiction
 .obtain ⟨i,n⟩:=e_.mp r
  have:=oo (h.au.dict i _ n) h.ord.at_;contradiction
theorem GR.push {k:AS} (h:GR b p a d o I ak aI C bU aP a8) (v:iT b p bc (.dict (dV aD))) (w:bc∉C/\bc≠d) (s:Upd p ax ak (.list ((C++[bc]).map .ref))) (m:Upd ax k aI (.list ((a8++[q]).map .int))):
 GR b k a d o I ak aI (C++[bc]) bU (aP++[aD]) (a8++[q]):=by
 have D:=m.le (s.le h.le h.au.fl) h.au.fe
 have r:∀c u,p c=some u->c≠ak->c≠aI->k c=some u:=λc u g y B=>(m.ne c B).trans ((s.ne c y).trans g)
 have kd:∀c t,p c=some (.dict t)->k c=some (.dict t):=λc t g=>r c _ g (λe=>by have:=oo g (e▸h.au.steps);contradiction) λe=>by have:=oo g (e▸h.au.ends);contradiction
 refine ⟨D,⟨r _ _ h.ord.at_ h.n1.symm h.n2.symm,h.ord.fr⟩,⟨kd _ _ h.pl.at_,h.pl.fr⟩,⟨r _ _ h.au.obj (λe=>by have:=oo h.au.obj (e▸h.au.steps);contradiction) (λe=>by have:=oo h.au.obj (e▸h.au.ends);contradiction),(m.ne ak h.au.ne).trans s.at_,m.at_,?_,λi l f=>?_,?_,h.au.ne,h.au.fl,h.au.fe,λl z=>?_⟩,h.n1,h.n2,?_⟩
 .rw [bh,h.au.len];show aP.length+1=(aP++[aD]).length;rw [bh];rfl
 .have n:C.length=aP.length:=h.au.len
  show k l=some (.dict (dV ((aP++[aD]).getD i [])))
  rw [ec]
  rcases ke i C.length with j |j
  .rw [eO j] at f
   rw [eO (n▸j),<-ec]
   exact kd _ _ (h.au.dict i l f)
  .rw [fm j] at f
   have x:i -C.length=0:=i7.mp (gA f)
   rw [x] at f
   (injection f with f;subst f)
   rw [fm (n▸j),<-n,x]
   exact kd _ _ v.at_
 .exact eQ.mpr ⟨h.au.nd,eU.mpr ⟨eg,eH⟩,λF E c g e=>w.1 (by rw [<-dt.mp g,<-e];exact E)⟩
 .exact (eG.mp z).elim (h.au.fd l) λe=>by rw [dt.mp e];exact v.fr
 .exact λA=>(eG.mp A).elim h.n3 λe=>w.2 (dt.mp e).symm
theorem GR.side (h:GR b p a d o I ak aI C bU aP a8) (e:iT b p bc (.dict aC)) (g:bc∉C/\bc≠d) (u:Upd p ax bc av):GR b ax a d o I ak aI C bU aP a8:=by
 have c:∀{f av},p f=some av->(∀aC,av≠.dict aC)->f≠bc:=λaI c q=>c _ (oo aI (q▸e.at_))
 exact ⟨u.le h.le e.fr,h.ord.keep u (c h.ord.at_ (by (repeat intro _);contradiction)),h.pl.keep u g.2.symm,h.au.upd u (c h.au.obj (by (repeat intro _);contradiction)) (c h.au.steps (by (repeat intro _);contradiction)) (c h.au.ends (by (repeat intro _);contradiction)) g.1,h.n1,h.n2,h.n3⟩
theorem R0 (k:Ev j e b g (.int q)) (f:Ev j e b D i) (h:∀c d,rh b d c (.dict [(.int q,i)])->js PG j ah (e.set a (some (.ref c))) d ag):js PG j (.cons (.asg a (.dict (.cons g (.cons D .nil)))) ah) e b ag:=
 k _ (f _ (gp [(q,i)] rfl (eU.mpr ⟨eg,eH⟩) (λc l=>h c _ (fM l))))
theorem Br.Nv (b:Br t ar aO C aP a8):C.length<=t.steps.length:=by
 have:=b.nd.length_le_of_subset (l₂:=eR t.steps.length) λx a=>eV.mpr (b.rep x a).1
 rwa [fg] at this
theorem Ec (hA:ng b d t) (G:tX t ar) (hh:F4 t ar 0 (λx=>C.getD x 0) cP) (kC:b o=some (.list (C.map sl))) (kG:C.length=t.steps.length) (h5:∀kB,(t.at kB).length<=5) (Y:t.steps.length<=1000) (hP:∀z w S y E,eC b E->ng E z ⟨S,y⟩->Br t ar (λx=>C.getD x 0) w S y->S.length=w.length->pV 1 0 S=some w.length->n (.ref z) E):Cl (eF PG (a+5)) (.fn 60) [.ref d,.ref o] b n:=by
 have kn:∀x,x<t.steps.length->C.getD x 0<t.steps.length/\ar (C.getD x 0)=ar x:=λx A=>(hh.rg x (fA _) A).2
 have kM:∀V,V<t.steps.length->C.getD (C.getD V 0) 0=C.getD V 0:=λV Y=>(hh.ok _ V (fA _) (kn V Y).1 (fA _) Y).mpr (kn V Y).2
 have h0:=HT (C:=C) (a:=0) (kG▸G.ok.pos)
 refine jQ [some (.ref d),some (.ref o),none,none,none,none,none,none,none] (df _ _) rfl rfl λk hk R J=>?_
 (injection hk with hk;subst hk)
 refine sJ (iO (fy (a5 rfl) kC d3 h0)) λc2 s1 n1=>R0 (fy (a5 rfl) (n1.le _ _ kC) d3 h0) d3 λT s2 n2=>jk (g8 d3 gS (FZ (a:=a) λz s3 l3 M3 L=>?_))
 obtain ⟨km,lo,eo,lT,M3⟩:=M3
 refine PW (o:=z) (I:=6) (ak:=km) (aT:=[(32,.ref lo),(55,.ref eo)]) (λs=>a5 rfl) M3.obj λl e s4 s5 s6 s7 P U u6 u7=>?_
 have lP:eC b s5:=b4 n1.le (b4 n2.le (b4 l3 (b4 P.le U.le)))
 have kH:b z=none:=jH (b4 n1.le n2.le) L
 have o3:=l3 _ _ n2.at_
 have I:=l3 _ _ (n2.le _ _ n1.at_)
 have t5:=U.le _ _ (P.le _ _ M3.obj)
 have kp:∀j r,j≠z->s5 j=some r->s7 j=some r:=λj r h1 h2=>(u7.ne j h1).trans ((u6.ne j h1).trans h2)
 have nt:∀{j r},s5 j=some r->(∀V km lM,r≠.inst V km lM)->j≠z:=λh1 h2 q=>h2 _ _ _ (oo h1 (q▸t5))
 have q2:=U.le _ _ (P.le _ _ I)
 have q3:=U.le _ _ (P.le _ _ o3)
 have q4:=U.le _ _ P.at_
 have B0:GR b s7 c2 T z km l e [] [C.getD 0 0] [] []:=
  ⟨u7.le (u6.le lP kH) kH,⟨kp _ _ (nt q2 (by (repeat intro _);contradiction)) q2,n1.fr⟩,⟨kp _ _ (nt q3 (by (repeat intro _);contradiction)) q3,jH n1.le n2.fr⟩,⟨u7.at_,kp _ _ (nt q4 (by (repeat intro _);contradiction)) q4,kp _ _ (nt U.at_ (by (repeat intro _);contradiction)) U.at_,rfl,(by intros;contradiction),eH,U.ne P.at_,jH (b4 n1.le (b4 n2.le l3)) P.fr,jH (b4 n1.le (b4 n2.le (b4 l3 P.le))) U.fr,(by intros;contradiction)⟩,(P.ne I).symm,(U.ne (P.le _ _ I)).symm,eg⟩
 have b0:Br t ar (λx=>C.getD x 0) [C.getD 0 0] [] []:=
  ⟨rfl,eU.mpr ⟨eg,eH⟩,λx A=>by rw [dt.mp A];exact ⟨(kn 0 G.ok.pos).1,(kM 0 G.ok.pos),[],(by rw [tF];exact (kn 0 G.ok.pos).2),(.inl rfl)⟩,fA _,(by intros;contradiction),rfl⟩
 obtain ⟨lV,la,ea,lS,kl⟩:=id hA
 refine oQ t.steps.length (λN m E=>∃w S y M,N=t.steps.length -S.length/\GR b E c2 T z km l e M w S y/\Br t ar (λx=>C.getD x 0) w S y/\pV 1 0 S=some w.length/\∃w5 w6 w7 w8,m=[some (.ref d),some (.ref o),some (.ref c2),some (.ref T),some (.ref z),w5,w6,w7,w8])
  (Di _ _ _ _ (Dh rfl B0 b0 rfl (Di _ _ _ _ rfl))) ?_
 intro N m E lE K' lD;refine G8 lE λw S y M lJ=>qn lJ λlI B j ho lG=>G8 lG λw5 w6 w7 w8 lh=>?_;subst lI;subst lh
 have kU:=j.Nv
 have kx:M.length=S.length:=B.au.len
 refine ei _ (pB (f_ (fW (jj (eP (a5 rfl) B.au.obj rfl) (f' B.au.steps)) (jj (a5 rfl) (f' B.ord.at_)) (oe rfl)))) (λlQ l2=>⟨λL=>?_,λL=>?_⟩)
 .have kV:S.length<w.length:=by
   have L:=of_decide_eq_true L
   rw [bb,bb,kx] at L
   exact ib.mp L
  have B:=B.grow l2
  obtain ⟨x,A⟩:∃x,w[S.length]? =some x:=oq _ (dj kV)
  have lN:=fj A
  refine Dn (j.rep x lN) λkz lU u lK lR=>?_
  have lC:(w.map sl)[(M.map AV.ref).length]? =some (.int x):=by rw [bb,kx,ed,A];rfl
  refine g_ (fy (a5 rfl) B.ord.at_ (jj (eP (a5 rfl) B.au.obj rfl) (f' B.au.steps)) lC) (zm λc6 s8 n8=>?_)
  have h6:c6∉M/\c6≠T:=⟨λW=>by
   refine kf (e_.mp W) λkB hi=>?_
   exact n8.ne (B.au.dict kB _ hi) rfl,(n8.ne B.pl.at_).symm⟩
  have H:iT b s8 c6 (.dict (dV [])):=n8.own B.le
  have B:=B.grow n8.le
  refine eS (kl.dict kz) λdd kX kF=>?_
  have lg:∀s:List (Int×Nat),(dV s).map (·.1)=(s.map (·.1)).map AV.int:=λs=>by unfold dV;rw [ew,ew];rfl
  have kP:((t.at x).map (·.1)).length<=5:=by rw [bb];exact h5 x
  refine rj (gz d3 (iO (fy (eP (a5 rfl) (B.le _ _ kl.obj) rfl) (B.le _ _ kl.steps) (a5 rfl) kX)) (sM (a:=a+3) (λQ hQ=>q_ (B.le _ _ kF) (nS _) Q (by rw [lg];exact hQ)) kP)) λv s9 l9 hv=>?_
  refine jo v hv λX kq=>?_
  have k2:X≠c2:=λq=>by have:=kq.fr;rw [q,B.ord.at_] at this;contradiction
  have B:=B.grow l9
  have H:=H.le l9
  have k3:X≠T:=λq=>by have:=oo kq.at_ (q▸B.pl.at_);contradiction
  have k6:X≠c6:=λq=>by have:=oo kq.at_ (q▸H.at_);contradiction
  refine iL (.list X ((sortI ((t.at x).map y6)).map .int)) (sortI ((t.at x).map y6)) .int (λQ=>gJ kq.at_) (λD m E=>∃r s,GR b E c2 T z km l e M r S y/\Br t ar (λx=>C.getD x 0) r S y/\r[S.length]? =some x/\F7 t (λx=>C.getD x 0) r x D s/\iT b E c6 (.dict (dV s))/\nU S.length w.length (s.map (·.2))=some r.length/\E X=some (.list ((sortI ((t.at x).map (·.1))).map .int))/\∃w7 w8,m=[some (.ref d),some (.ref o),some (.ref c2),some (.ref T),some (.ref z),some (.int x),some (.ref c6),w7,w8])
   (OM w [] (Ci B j A ⟨rfl,(by intros;contradiction)⟩ H rfl kq.at_ (OM _ _ rfl))) (λD m E zf=>qY zf λ_ _ lH=>Cg lH λ_ _ _ _ _ _ h _=>h) ?_ ?_
  .intro D g r' m lL hD ly K2 lj;refine qY ly λr s lq=>y7 m lq λB j A J H ku ky w7 w8=>?_
   have hg:=ir.mp (mid hD)
   have kJ:=(G.tJ kz).mp hg
   refine gi (G.qQ kz kJ) λcc h1 h2 h3=>?_
   have kD:=kn cc h3
   have kI:=gA A
   have VO:c6≠c2:=λq=>by have:=oo H.at_ (q▸B.ord.at_);contradiction
   have lr:g∉D:=λW=>by
    have:=(sortI_perm _).symm.nodup (G.ok.rR x)
    rw [hD,eQ] at this
    exact this.2.2 g W g (.head _) rfl
   refine ei _ rfl (g_ (fy (a5 rfl) (B.le _ _ kC) (sg (fy (eP (a5 rfl) (B.le _ _ kl.obj) rfl) (B.le _ _ kl.steps) (a5 rfl) kX) (B.le _ _ kF) (a5 rfl) (.inl ⟨⟨_,rfl⟩,nS _⟩) (rP h1)) (HT (kG▸h3))) ?_)
   refine yE (λm E=>∃I F,GR b E c2 T z km l e M I S y/\Br t ar (λx=>C.getD x 0) I S y/\I[S.length]? =some x/\F7 t (λx=>C.getD x 0) I x D s/\iT b E c6 (.dict (dV s))/\nU S.length w.length (s.map (·.2)++[F])=some I.length/\I[F]? =some (C.getD cc 0)/\E X=some (.list ((sortI ((t.at x).map (·.1))).map .int))/\m=[some (.ref d),some (.ref o),some (.ref c2),some (.ref T),some (.ref z),some (.int x),some (.ref c6),some (.int g),some (.int (C.getD cc 0:Nat))])
    (λK3 kQ=>yF (Ea (aw:=decide (C.getD cc 0∈r)) (a5 rfl) (a5 rfl) B.pl.at_ (.inl ⟨(oq _ rfl),Eb _⟩) (decide_eq_true_iff.trans F8.symm) _ ?_)) ?_
   .have kW:∀F,F<=r.length->nU S.length w.length (s.map (·.2)++[F])=some (max r.length (F+1)):=λF Z=>by
     rw [F5,ku]
     exact if_neg λq=>q.elim (λq=>i6.mpr q kI) λq=>i6.mpr Z q
    by_cases W:C.getD cc 0∈r
    .rw [decide_eq_true W]
     refine kf (e_.mp W) λF Z=>?_
     exact kQ _ _ ⟨r,F,B,j,A,J,H,(by rw [kW F (eB (gA Z)),BP (gA Z)]),Z,ky,rfl⟩
    .rw [decide_eq_false W]
     refine wz (jj (a5 rfl) (f' B.ord.at_)) (a5 rfl) B.pl.at_ (a5 rfl) (.inl ⟨(oq _ rfl),Eb _⟩) ?_ λkO K=>?_
     .unfold QS;rw [xZ]
      exact c_ (a_ j.Nv Y) (by unfold fG;decide)
     rw [j2 (λq=>W (F8.mp q)),bb,<-Nu] at K
     have lu:c2≠T:=λq=>by have:=oo B.ord.at_ (q▸B.pl.at_);contradiction
     refine qE (a5 rfl) ((K.ne c2 lu).trans B.ord.at_) ?_ (a5 rfl) λkK O=>kQ _ _ ⟨(r++[C.getD cc 0]),r.length,(B.goal K (by rw [b_];exact O)),(j.more W ⟨kD.1,kM cc h3,u++[g],?_,.inr ?_⟩),(by rw [eO kI];exact A),(J.more _),((H.keep K h6.2).keep O VO),(by rw [kW _ (eK _),bh];exact congrArg some (Ad (v5 _))),jC,((O.ne X k2).trans ((K.ne X k3).trans ky)),rfl⟩
     .rw [bb];exact c_ (a_ j.Nv Y) (by unfold fG;decide)
     .rw [<-tG,<-lK];exact kD.2.trans h2
     .rw [kD.2,h2];exact kJ
   .intro m kO lA;refine qY lA λI F lF=>G7 m lF λB j A J H ku Z ky=>?_
    refine wz (sg (a5 rfl) B.pl.at_ (a5 rfl) (.inl ⟨(oq _ rfl),Eb _⟩) (Jf Z)) (a5 rfl) H.at_ (a5 rfl) (.inl ⟨(oq _ rfl),nS _⟩) ?_ λkK O=>lj _ _ (OM I (s++[(g,F)]) (Ci (B.side H h6 O) j A ⟨?_,λp hp=>?_⟩ ?_ ?_ ((O.ne X k6).trans ky) (OM _ _ rfl)))
    .unfold dV;rw [bb,<-bb (f:=(·.1)),J.keys]
     have:D.length<=5:=by
      have h:=congrArg fk hD
      rw [(sortI_perm _).length_eq,bh] at h
      exact a_ (eh _ _) (h▸kP)
     exact rG this
    .rw [b_,J.keys];rfl
    .rcases eG.mp hp with hp |hp
     .exact J.to p hp
     .rw [dt.mp hp];exact ei cc h1 Z
    .have:=O.own (s0:=b) H.fr
     rw [j2 (λq=>lr (by rw [<-J.keys];exact D4.mp q))] at this
     rw [show dV (s++[(g,F)])=dV s++[(.int g,.int F)] from b_ ..]
     exact this
    .rw [b_];exact ku
  .intro m lL lO;refine qY lO λr s lz=>y7 m lz λB j A J H ku _ w7 w8=>?_
   have hT:t.steps.length<=1000:=Y
   have kU:=j.Nv
   have kN:S.length<fG:=c_ (a_ j.le (a_ kU Y)) (by unfold fG;decide)
   have lx:y.length=S.length:=by rw [j.es,bb,fT,j5 j.le]
   refine qE (eP (a5 rfl) B.au.obj rfl) B.au.steps (by rw [bb,kx];exact kN) (a5 rfl) λkO K=>?_
   have kT:=K.le B.le B.au.fl
   have kY:=(K.ne z λq=>by have:=oo B.au.obj (q▸B.au.steps);contradiction).trans B.au.obj
   have kZ:=(K.ne e B.au.ne.symm).trans B.au.ends
   refine qE (eP (a5 rfl) kY rfl) kZ (by rw [bb];show y.length<_;rw [lx];exact kN) (fy (eP (a5 rfl) (kT _ _ kl.obj) rfl) (kT _ _ kl.ends) (a5 rfl) (vo G.ok kz)) λkK O=>?_
   have e1:M.map AV.ref++[.ref c6]=(M++[c6]).map .ref:=by rw [b_];rfl
   have e2:y.map AV.int++[.int (t.end x)]=(y++[t.end x]).map .int:=by rw [b_];rfl
   rw [e1] at K
   rw [e2] at O
   have lB:(S++[s]).length=S.length+1:=bh ..
   refine lD _ _ _ ?_ (Di r (S++[s]) (y++[t.end x]) (M++[c6]) (Dh rfl (B.push H h6 K O) (j.push A J) ?_ (Di _ _ _ _ rfl)))
   .have:=ej kV (a_ (gy rfl) ‹w.length<=t.steps.length›)
    rw [lB]
    exact i8 this (fJ _)
   .rw [F6,ho]
    show nU (0+S.length) w.length _=_
    rw [i4];exact ku
 .have B:=B.grow l2
  refine iS (a5 rfl) (J _ _ _ B.le (hP z w S y _ B.le ⟨_,_,_,_,B.au.au⟩ j (iw j.le ?_) ho))
  have L:=of_decide_eq_false L
  rw [bb,bb,kx] at L
  exact gU.mp (ny.mp L)
noncomputable def Ox (ks:List Int):List (AV×AV):=ks.map λg=>(.int g,.bool true)
theorem Bk (a:List Int):(Ox a).map (·.1)=a.map .int:=by unfold Ox;rw [ew];rfl
theorem Jg (a:List Int):IntKeys (Ox a):=λp b=>by
 refine iQ p (ck.mp b) λg _=>?_;exact ⟨g,rfl⟩
theorem PX (b:List Int) (a:Int):dictPut (Ox b) (.int a) (.bool true)=Ox (if a∈b then b else b++[a]):=by
 by_cases h:a∈b
 .rw [if_pos h]
  have d:AV.int a∈(Ox b).map (·.1):=by rw [Bk,qJ];exact h
  refine (if_pos d).trans ((fo (g:=id) λp c=>?_).trans (Ie _))
  refine iQ p (ck.mp c) λx _=>?_
  by_cases e:AV.int x=AV.int a
  .exact (if_pos e).trans (by rw [<-e];rfl)
  .exact if_neg e
 .rw [if_neg h,j2 (by rw [Bk,qJ];exact h)]
  unfold Ox;rw [b_];rfl
noncomputable def R1 (A:Au):Prop:=∀i,D3 ((A.at i).map (·.1))
theorem xP (a:a8.Nodup) (h:D3 a8):a8.length<=5:=by
 refine a.length_le_of_subset (l₂:=[1,2,3,4,5]) λg b=>?_
 have:=h g b
 simp only [eL,eg,or_false]
 (first |exact Dr this |exact Ds this)
noncomputable def nh (A:Au) (g:Int):hJ:=(eR A.steps.length).map λn=>FG (A.step n g)
theorem Nw (b:a<t.steps.length):(nh t q)[a]? =some (FG (t.step a q)):=by
 unfold nh;rw [ed,jy b];rfl
theorem Ny:∀(a D:List (AV×AV)),((D++a).map (·.1)).Nodup->a.foldl (λd p=>dictPut d p.1 p.2) D=D++a:=by
 intro e
 induction e with
 |nil=>
  intro D _
  exact (eT D).symm
 |cons p a c=>
  intro D h
  have b:p.1∉D.map (·.1):=λq=>by
   rw [b_,eQ] at h
   exact h.2.2 _ q p.1 (.head _) rfl
  show a.foldl _ (dictPut D p.1 p.2)=_
  rw [j2 b,c (D++[(p.1,p.2)]) (by rw [eE];exact h),eE];rfl
theorem PY {d:List (Int×AV)} (t:Al (eF PG (a+1)) e b g (gQ b (d.map λp=>.tup [.int p.1,p.2]))) (r:(d.map (·.1)).Nodup) (f:∀c j,eC b j->iT b j c (.dict (d.map λp=>(.int p.1,p.2)))->n (.ref c) j):Al (eF PG (a+1)) e b (.call (.cst (.bi 6)) (.cons g .nil)) n:=
 xD t λv y k m=>by
  refine jo v m λc w=>?_
  refine λQ u=>jM (.mk (.mk w.at_ ?_))
  refine gp (d.map λp=>(.int p.1,p.2)) (by rw [ew];rfl) (λp f=>?_) (λc2 l=>?_)
  .refine iQ p (ck.mp f) λq _=>?_;exact oq q.1 rfl
  .have s:(([]++d.map λp:Int×AV=>(AV.int p.1,p.2)).map λq:AV×AV=>q.1).Nodup:=by
    rw [BE,ew]
    have:=Cd (R:=(·≠·)) (S:=(·≠·)) AV.int (λx z h q=>h (AV.int.inj q)) r
    rwa [ew] at this
   rw [Ny _ _ s]
   have i:=fM (av:=.dict (d.map λp=>(.int p.1,p.2))) l
   exact u _ _ i.le (f c2 _ (b4 k i.le) (i.own k))
theorem uX (h:ng b d t) (g:e[o]? =some (some (.ref d))):Ev (eF PG (a+4)) e b (.fO (.var o) 9 .nil) (.int t.steps.length):=λQ f=>by
 obtain ⟨i,l,k,j,c⟩:=id h
 exact ju (a5 g) c.obj rfl rfl rfl gS (sI (df 4 _) h f)
theorem PZ (p:Nat->AV) (s:d<=fG) (u:Ev (eF PG (a+1)) e b D (.int d)) (l:∀i,i<d->∀f,eC b f->∃q,jI C (.int (i:Nat)) (bz.map λc=>c.bind λj=>(e[j]?).join)=some q/\Al (eF PG (a+1)) q f g λv _=>v=p i):
 Al (eF PG (a+1)) e b (.comp bz g C (.call (.cst (.bi 4)) (.cons D .nil)) .nil .nil) (gQ b ((eR d).map p)):=by
 have:=tB (j:=eF PG (a+1)) (b:=b) (e:=e) (bz:=bz) (g:=g) (aq:=.nil) (C:=C) (λ_=>true) p (eR d) (λd=>.int (d:Nat)) (by rw [fg];exact s) (n:=λv _=>v= .pZ 0 d 1) (gz d3 (iO u) λQ x=>tD (a:=a) (a_ s (by unfold fG;decide)) (x _ _ (ee _) rfl)) (λv y _ D=>(ei .pZ (λ_ _=>trivial) (by rw [D];exact λQ=>p8)))
  λi o f k=>gp (l i (eV.mp o) f k).choose (l i (eV.mp o) f k).choose_spec.1 xE (λ_ w t=>?_)
 .rwa [jz.mpr λ_ _=>rfl] at this
 .refine eS (l i (eV.mp o) w (b4 k t)) λq r h=>?_
  rw [(l i (eV.mp o) f k).choose_spec.1] at r
  cases d5 r;exact h
theorem Ed (h:ng b d t) (hO:t.Ok) (hG:R1 t) (hc:t.steps.length<=1000) (hP:∀c f w,eC b w->f.Nodup->(∀g,g∈f↔∃i,g∈(t.at i).map (·.1))->iT b w c (.dict ((sortI f).map λg=>(.int g,tI (nh t g))))->n (.ref c) w):Cl (eF PG (a+6)) (.fn 63) [.ref d] b n:=by
 refine jQ [some (.ref d),none,none,none] (df _ _) rfl rfl λk r R hR=>?_
 (injection r with r;subst r)
 obtain ⟨dx,l,e,ds,H⟩:=id h
 have km:=H.AU.length
 have Z:∀s:List (Int×Nat),(dV s).map (·.1)=s.map λp=>AV.int p.1:=λs=>by unfold dV;rw [ew];rfl
 refine zm λc s1 n1=>oV (eP (a5 rfl) (n1.le _ _ H.obj) rfl) (iL (.list l _) ds .ref (λQ=>gJ (n1.le _ _ H.steps)) (λA m w=>eC b w/\(∃f,iT b w c (.dict (Ox f))/\f.Nodup/\D3 f/\∀g,g∈f↔∃i,i<A.length/\g∈(t.at i).map (·.1))/\∃S B,m=[some (.ref d),some (.ref c),S,B])
  (qV n1.le ⟨[],n1.own (ee _),eH,(by (repeat intro _);contradiction),λg=>⟨(by intros;contradiction),λz=>eS z λi h _=>absurd h (pd i)⟩⟩ _ _ rfl) (λ_ _ _ T=>T.1 _ _ H.steps) ?_ ?_)
 .intro A y r' m s2 hd kx K hK;refine r6 m kx λE C S B=>?_;refine r7 C λf o j u r=>?_
  have W:ds[A.length]? =some y:=by rw [hd];simp
  have ku:A.length<t.steps.length:=km▸gA W
  refine eS (H.AU.get (yy ku)) λy' kl kn=>?_
  rw [W] at kl;obtain rfl:=d5 kl
  refine ⟨_,rfl,oV (a5 rfl) (iL (.dict y _) (t.at A.length) (λp=>.int p.1) (λQ L=>vn (E _ _ kn) (nS _) (by rw [Z];exact L)) (λD m w=>eC b w/\(∃f,iT b w c (.dict (Ox f))/\f.Nodup/\D3 f/\∀g,g∈f↔(∃i,i<A.length/\g∈(t.at i).map (·.1))\/g∈D.map (·.1))/\∃B,m=[some (.ref d),some (.ref c),some (.ref y),B])
   ⟨E,⟨f,o,j,u,λg=>(r g).trans ⟨.inl,λh=>h.elim id (by intros;contradiction)⟩⟩,_,rfl⟩ (λ_ _ _ T=>(ei _ (T.1 _ _ kn) (Z _))) ?_ ?_)⟩
  .intro D p r2 m F hD kz K2 ky;refine Lq m kz λG C B=>?_;refine r7 C λf o j u r=>?_
   have kq:=hG A.length p.1 (fF (mid hD))
   refine ei _ rfl (wz d3 (a5 rfl) o.at_ (a5 rfl) (.inl ⟨⟨_,rfl⟩,Jg _⟩) (by unfold Ox;rw [bb];exact rG (xP j u)) λs4 Y=>ky _ _ ⟨Y.le G o.fr,⟨if p.1∈f then f else f++[p.1],?_,?_,?_,λg=>?_⟩,_,rfl⟩)
   .rw [<-PX];exact Y.own o.fr
   .split
    .exact j
    .rename_i V
     exact eQ.mpr (iD j (eU.mpr ⟨eg,eH⟩) (λd ha kD hb q=>V (by rw [<-dt.mp hb,<-q];exact ha)))
   .split
    .exact u
    .exact λg I=>(eG.mp I).elim (u g) λh=>by rw [dt.mp h];exact kq
   .rw [b_,eG,<-or_assoc,<-r g]
    have hs:g∈[p].map (·.1)↔g=p.1:=dt
    rw [hs]
    split
    .rename_i V;exact ⟨.inl,λh=>h.elim id λh=>h▸V⟩
    .rw [eG,dt]
  .intro m F kC;refine Lq m kC λG C B=>?_;refine r7 C λf o j u r=>?_
   refine hK _ _ (qV G ⟨f,o,j,u,λg=>(r g).trans ⟨λh=>?_,λz=>eS z λi N I=>?_⟩⟩ _ _ rfl)
   .rw [bh]
    exact h.elim (λz=>eS z λi O h2=>(ei i (jt O) h2)) λh=>ei A.length (fJ _) h
   .rw [bh] at N
    rcases EI.mp N with O |rfl
    .exact .inl (ei i O I)
    .exact .inr I
 .intro m s2 kB;refine r6 m kB λE C S B=>?_;refine r7 C λf o j u r=>?_
  have X:=xP j u
  refine si (PY (a:=a+4) (d:=(sortI f).map λg=>(g,tI (nh t g))) (qq (xF (λg=>.tup [.int g,tI (nh t g)]) (eB (rG (by rw [(sortI_perm _).length_eq];exact X))) (gz d3 (iO (a5 rfl)) (sM (a:=a+4) (λQ L=>q_ o.at_ (Jg _) Q (by rw [Bk];exact L)) X)) λg I F M=>(ei [none,some (.int g),some (.ref d)] rfl (I2 (a5 rfl) (p7 (a:=a+4) (n:=λv _=>v=tI (nh t g)) (l:=(nh t g).map .int) ?_ λ_ _=>rfl)))) λv F _ J=>?_) ?_ (n:=n) λc2 F M U=>hP c2 f F (b4 E M) j (λg=>(r g).trans ⟨λz=>eS z λi _ h=>⟨i,h⟩,λz=>kf z λi h=>?_⟩) ?_) λv F M J=>hR _ _ _ (b4 E M) J
  .have G:=b4 E M
   have h3:=h.le G
   refine qq (PZ (a:=a+4) (λi=>.int (FG (t.step i g))) (a_ hc (by unfold fG;decide)) (uX (a:=a+1) h3 rfl) λi N s4 l4=>(ei [none,some (.int i),some (.int g),some (.ref d)] rfl (λQ L=>ju (a5 rfl) (l4 _ _ (G _ _ H.obj)) rfl rfl rfl (iR (a5 rfl) (a5 rfl)) (yz (df 3 _) (h3.le l4) N (L _ _ (ee _) rfl))))) λv s4 _ J=>?_
   rw [show (nh t g).map AV.int=_ from ew ..];exact J
  .rw [ew];exact J
  .rw [ew,show ((λx:Int×AV=>x.1)∘λg=>(g,tI (nh t g)))=id from rfl,Ie]
   exact (sortI_perm f).symm.nodup j
  .refine eS (ck.mp h) λp hp _=>?_
   exact ei i (km▸(wy hp).1) h
  .rw [ew] at U;exact ⟨U.at_,jH E U.fr⟩
structure F9 (st:AS) (tb dx ca rw en:Nat) (rs:List Nat) (A:Au) (s:List (Int×Nat)) (C:List hJ):Prop where
 obj:st tb=some (.inst 8 dx [(33,.ref ca),(58,.ref rw),(55,.ref en)])
 cls:zl st ca s
 rows:st rw=some (.list (rs.map .ref))
 len:rs.length=A.steps.length
 row:∀(i:Nat) r,rs[i]? =some r->st r=some (.list (C.map λc=>.int (c.getD i (-1))))
 ends:st en=some (.list (A.ends.map .int))
 col:∀g,C[(s.lookup g).getD 0]? =some (nh A g)
inductive F_ (st:AS) (tb:Nat) (A:Au) (s:List (Int×Nat)) (C:List hJ):Prop where
 |mk (dx ca rw en:Nat) (rs:List Nat) (h0:F9 st tb dx ca rw en rs A s C):F_ st tb A s C
variable {aM:List hJ}
theorem F9.le (h:F9 b a d o I ak C t aD aM) (c:eC b p):F9 p a d o I ak C t aD aM:=⟨c _ _ h.obj,h.cls.le c,c _ _ h.rows,h.len,λi r e=>c _ _ (h.row i r e),c _ _ h.ends,h.col⟩
theorem P0 {st:AS} {n:Nat} {Q:AV->AS->Prop} {A:Au} {s:List (Int×Nat)} {C:List hJ} {tb dx ca rw en k:Nat} {rs:List Nat} {g:Int} (h:F9 st tb dx ca rw en rs A s C) (hk:k<A.steps.length) (hQ:Q (.int (FG (A.step k g))) st):eF PG (n+5) (.fn 62) [.ref tb,.int k,.int g] st Q:=by
 obtain ⟨dxc,d,hc,hd⟩:=id h.cls
 have hk':k<rs.length:=h.len▸hk
 have hr:=dj hk'
 have hcl:Ev (eF PG (n+4)) [some (.ref tb),some (.int k),some (.int g)] st (.fO (.attr (.var 0) 33) 4 (.cons (.var 2) .nil)) (.int (((s.lookup g).getD 0:Nat))):=λQ hQ=>ju (eP (a5 rfl) h.obj rfl) hc rfl rfl rfl (iO (a5 rfl)) (sh (df 3 _) h.cls hQ)
 refine gR [some (.ref tb),some (.int k),some (.int g)] (df 2 _) rfl rfl (iS (fy (fy (eP (a5 rfl) h.obj rfl) h.rows (a5 rfl) (by rw [ed,hr];rfl)) (h.row k _ hr) hcl (by rw [ed,h.col g];rfl)) (ei _ (ee _) ?_))
 show Q (.int ((nh A g).getD k (-1))) st
 rw [ec,Nw hk];exact hQ
theorem o_ (h:t.step a q=some d):iH t a o dh (q::a8)=iH t d (o+1) (if t.end d= -1 then dh else (o+1,t.end d)) a8:=by
 show (match t.step a q with |none=>dh |some d=>iH t d (o+1) (if t.end d= -1 then dh else (o+1,t.end d)) a8)=_
 rw [h]
theorem nV (h:t.step a q=none):iH t a d dh (q::a8)=dh:=by
 show (match t.step a q with |none=>dh |some b=>iH t b (d+1) (if t.end b= -1 then dh else (d+1,t.end b)) a8)=_
 rw [h]
theorem Ga (A:Au):∀(r:List Int) (k a x:Nat) (b:Nat×Int),iH A k a b r=if (iH A k a (x,-1) r).2= -1 then b else iH A k a (x,-1) r:=by
 intro i
 induction i with
 |nil=>
  intro _ _ _ _
  exact (if_pos rfl).symm
 |cons g r e=>
  intro k a x b
  induction c:A.step k g with
  |none=>rw [nV c,nV c];exact (if_pos rfl).symm
  |some t=>
   rw [o_ c,o_ c]
   by_cases h:A.end t= -1
   .simp only [if_pos h];exact e t _ x b
   .simp only [if_neg h]
    have f:∀p:Nat×Int,(if p.2= -1 then ((a+1,A.end t):Nat×Int) else p).2≠-1:=λp=>by
     by_cases d:p.2= -1
     .rw [if_pos d];exact h
     .rw [if_neg d];exact d
    have:=e t (a+1) 0 (a+1,A.end t)
    exact (if_neg (by rw [this];exact f _)).symm
theorem Kq (A:Au) (c:Nat) (a:0<a8.length):iH A 0 c (c+1,a8.headD 0) a8=(c+(fZ [A] a8).1,(fZ [A] a8).2):=by
 rw [Ga A a8 0 c c,CO,qP]
 by_cases h:(j8 A a8).2= -1
 .rw [if_pos h,if_pos h]
 .rw [if_neg h,if_neg h]
theorem zI (v:F_ b d t aD aM) (G:t.Ok) (r:b o=some (.list (a8.map .int))) (hl:a8.length<=10000):Cl (eF PG (a+6)) (.fn 65) [.ref d,.ref o] b (gQ b ((iK (fZ [t]) a8.length a8).map .int)):=by
 obtain ⟨dx,ca,rw,en,rs,v⟩:=v
 refine jQ [some (.ref d),some (.ref o),none,none,none,none,none,none] (df _ _) rfl rfl λk C R hR=>?_
 (injection C with C;subst C)
 refine sJ gS λc s1 n1=>g_ d3 (oQ a8.length (λN m D=>∃(p:Nat) (x:List Int) (B y E z:Option AV),m=[some (.ref d),some (.ref o),some (.ref c),some (.int p),B,y,E,z]/\eC b D/\iT b D c (.list (x.map .int))/\p<=a8.length/\N=a8.length -p/\x.length<=p/\
  x++iK (fZ [t]) (a8.length -p) (a8.drop p)=iK (fZ [t]) a8.length a8)
  (uy 0 [] _ _ _ _ (ux rfl n1.le (n1.own (ee _)) (fA _) rfl (eK _) rfl)) ?_)
 intro N m D kF K hK;refine EN kF λp x B y E z kD=>Af kD λX V J w T O P=>?_;subst X;subst T
 have ku:=V _ _ r
 have W:∀{m:MM} {b:AS},m[1]? =some (some (.ref o))->b o=some (.list (a8.map .int))->Ev (eF PG (a+5)) m b (.call (.cst (.bi 0)) (.cons (.var 1) .nil)) (.int a8.length):=λhm r=>by
  have:=jj (a:=a+4) (a5 hm) (f' r)
  rwa [bb] at this
 refine ei _ (pB (f_ (fW (a5 rfl) (W rfl ku) (oe rfl)))) (λkn F=>⟨λl=>?_,λl=>?_⟩)
 .have I:p<a8.length:=ib.mp (of_decide_eq_true l)
  have L:=b4 V F
  have kz:=L _ _ r
  have Z:(a8.map AV.int)[p]? =some (.int a8[p]):=by rw [ed,dj I];rfl
  have kK:a8.drop p=a8[p]::a8.drop (p+1):=fR I
  have S:0<(a8.drop p).length:=by rw [eA];exact i5 I
  have kx:=Kq t p S
  rw [show (a8.drop p).headD 0=a8[p] by rw [kK];rfl] at kx
  have h2:=v.le L
  have Y:=rd [t] S
  generalize hq:fZ [t] (a8.drop p)=q at*
  have kB:∀B z s,eC kn s->js PG (eF PG (a+5)) (.cons (.ex (.fO (.var 2) 0 (.cons (.var 6) .nil))) (.cons (.asg 3 (.var 5)) .nil)) [some (.ref d),some (.ref o),some (.ref c),some (.int p),B,some (.int (p+q.1:Nat)),some (.int q.2),z] s (Lp (eF PG (a+5)) (.cons (.ret (.var 2)) .nil) R K):=λB z s i=>by
   rw [eA] at Y
   have kG:p+q.1<=a8.length:=by have:=d7 Y.1 p;rwa [rz w] at this
   have km:p<p+q.1:=gm Y.2
   refine qE (a5 rfl) (i _ _ (F _ _ J.at_)) (by rw [bb];exact c_ (a_ O (a_ w hl)) (by unfold fG;decide)) (a5 rfl) λkP u3=>g_ (a5 rfl) (hK _ _ _ ?_ (uy (p+q.1) (x++[q.2]) _ _ _ _ (ux rfl (u3.le (b4 L i) J.fr) ?_ kG rfl ?_ ?_)))
   .exact i8 I km
   .rw [b_];exact u3.own J.fr
   .rw [bh];exact a_ (fi O) km
   .have e1:=sP _ (qa t) S
    rw [eA,hq,ip,eA] at e1
    rw [eE,<-P,e1];rfl
  refine rf (g7 (vH d3 (ie (a5 rfl) d3 rfl) (fy (a5 rfl) kz (a5 rfl) Z))) rfl (by decide) (g_ (a5 rfl) ?_)
  refine oQ (a8.length -p) (λN m D=>eC kn D/\∃(k e:Nat) (g:Nat×Int),m=[some (.ref d),some (.ref o),some (.ref c),some (.int p),some (.int k),some (.int g.1),some (.int g.2),some (.int e)]/\k<t.steps.length/\e<=a8.length/\N=a8.length -e/\iH t k e g (a8.drop e)=(p+q.1,q.2))
   (Ln (ee _) 0 p (p+1,a8[p]) (Dh rfl G.pos w rfl kx)) ?_
  intro N m kQ kJ K2 kH;refine Q9 kJ λU k e g kI=>qn kI λX C kN T f=>?_;subst X;subst T
  refine ei _ (pB (f_ (fW (a5 rfl) (W rfl (U _ _ kz)) (oe rfl)))) (λs i=>⟨λl=>?_,λl=>?_⟩)
  .have i:=b4 U i
   have H:e<a8.length:=ib.mp (of_decide_eq_true l)
   have ky:=b4 L i
   have M:=v.le ky
   have Z:(a8.map AV.int)[e]? =some (.int a8[e]):=by rw [ed,dj H];rfl
   rw [fR H] at f
   refine g_ (λQ hQ=>ju (a5 rfl) M.obj rfl rfl rfl (iR (a5 rfl) (fy (a5 rfl) (ky _ _ r) (a5 rfl) Z)) (P0 (n:=a) M C hQ)) ?_
   refine ko (f_ (fW (a5 rfl) d3 (eq_int rfl))) (λA=>?_) λA=>?_
   .induction u:t.step k a8[e] using d_ with
    |some h=>
     rw [u] at A
     have:((h:Nat):Int)= -1:=of_decide_eq_true A
     exact (JD this.symm).elim
    |none=>
     rw [nV u] at f
     subst f
     exact QK (kB _ _ _ i)
   .induction u:t.step k a8[e] using d_ with
    |none=>rw [u] at A;exact absurd A (by decide)
    |some h=>
     rw [o_ u] at f
     have kl:=oh G u
     have kq:∀g:Nat×Int,iH t h (e+1) g (a8.drop (e+1))=(p+q.1,q.2)->K2 [some (.ref d),some (.ref o),some (.ref c),some (.int p),some (.int h),some (.int g.1),some (.int g.2),some (.int (e+1:Nat))] s:=λg f=>kH _ _ _ (i8 H (fJ _)) (Ln i h (e+1) g (Dh rfl kl H rfl f))
     have kC:∀y E,Ev (eF PG (a+5)) [some (.ref d),some (.ref o),some (.ref c),some (.int p),some (.int h),y,E,some (.int (e+1:Nat))] s (.sub (.attr (.var 0) 55) (.var 4)) (.int (t.end h)):=λy E=>fy (eP (a5 rfl) M.obj rfl) M.ends (a5 rfl) (vo G kl)
     refine s_end (g_ (ie (a5 rfl) d3 rfl) (ko (f_ (fW (kC _ _) d3 (ne_int rfl))) (λj=>?_) λj=>?_))
     .have j:t.end h≠-1:=λq=>by rw [q] at j;exact absurd j (by decide)
      rw [if_neg j] at f
      exact rf (g7 (iR (a5 rfl) (kC _ _))) rfl (by decide) (kq (e+1,t.end h) f)
     .have j:t.end h= -1:=gj λq=>by rw [decide_eq_false q] at j;exact absurd j (by decide)
      rw [if_pos j] at f
      exact kq g f
  .have kO:e=a8.length:=iw kN (gU.mp (ny.mp (of_decide_eq_false l)))
   rw [kO,ox] at f
   have f:g=(p+q.1,q.2):=f
   subst f
   exact kB _ _ _ (b4 U i)
 .have kM:p=a8.length:=iw w (gU.mp (ny.mp (of_decide_eq_false l)))
  clear G r hl v n1 w hK O ku W l;subst kM
  rw [jE,show iK (fZ [t]) 0 (a8.drop a8.length)=[] from rfl,eT] at P
  subst P
  exact iS (a5 rfl) (hR _ _ _ (b4 V F) (ei c rfl (J.le F)))
noncomputable def rT:Nat->List Nat->Option Nat
 |k,[]=>some k
 |k,t::ts=>if t>k+1 then none else rT (max k t) ts
theorem Bl (t:Nat):∀(a:List Nat) (k:Nat),rT k (a++[t])=(rT k a).bind λb=>if t>b+1 then none else some (max b t):=by
 intro c
 induction c with
 |nil=>
  intro k
  exact rfl
 |cons u a d=>
  intro k
  show (if _ then _ else _)=(if _ then _ else _:Option Nat).bind _
  by_cases h:u>k+1
  .rw [if_pos h,if_pos h];rfl
  .rw [if_neg h,if_neg h];exact d _
noncomputable def QT (D:List hJ):List (AV×AV):=D.mapIdx λ(j:Nat) (c:hJ)=>(tI c,.int (j+1:Nat))
theorem Nz (D:List hJ) (c:hJ):QT (D++[c])=QT D++[(tI c,.int (D.length+1:Nat))]:=KW
theorem Jh (h:aM[a]? =some ay):(tI ay,AV.int (a+1:Nat))∈QT aM:=by
 obtain ⟨b,c⟩:=ey.mp h
 exact pb.mpr ⟨a,b,by rw [c]⟩
theorem Gb:tI ay∈(QT aM).map (·.1)↔ay∈aM:=by
 constructor
 .intro h
  refine eS (ck.mp h) λp b e=>?_
  obtain ⟨i,a,rfl⟩:=pb.mp b
  have:aM[i]=ay:=Hz e
  exact this▸fP a
 .intro h
  obtain ⟨t,c⟩:=e_.mp h
  exact ck.mpr (ei _ (Jh c) rfl)
theorem Ee (c:hJ) (D:List hJ):te (tI c) (QT D):=.inr ⟨⟨⟨_,rfl⟩,D1 3 _⟩,λp a=>by
 obtain ⟨i,b,rfl⟩:=pb.mp a;exact ⟨⟨_,rfl⟩,D1 3 _⟩⟩
noncomputable def mQ (A:Au):hJ:=gn A.steps.length (-1)
structure yK (A:Au) (D:List Int) (Dc:List hJ) (s:List (Int×Nat)):Prop where
 keys:s.map (·.1)=D
 nd:Dc.Nodup
 mem:∀c∈Dc,∃g∈D,c=nh A g
 at_:∀p∈s,∃j,p.2=j+1/\Dc[j]? =some (nh A p.1)
 num:rT 0 (s.map (·.2))=some Dc.length
theorem list_list (f:b d=some (.list l)) (h:∀c e,rh b e c (.list l)->n (.ref c) e):eF PG (a+1) (.bi 10) [.ref d] b n:=jM (.mk (.list f λc g=>h c _ (fM g)))
theorem Gd (h:∀c d,rh b d c (.list l)->n (.ref c) d):eF PG (a+1) (.bi 10) [.tup l] b n:=jM (.mk (.tup λc e=>h c _ (fM e)))
theorem Ge (h:VE PG j g e b λc b=>VE PG j D e b λa b=>VE PG j aL e b λd b=>j i [c,a,d] b n):VE PG j (.call (.cst i) (.cons g (.cons D (.cons aL .nil)))) e b n:=h
theorem Ef (h:VE PG j g e b λv b=>l.length<fG/\bH (l++[v]) b):LA PG j .nil e b λt b=>if t then VG PG j (VE PG j g) .nil e l b bH else bH l b:=h
theorem Ji (h:VE PG j g e b λv b=>∀c,b.free c->n (.ref c) (b.set c (.list [v]))):VE PG j (.lst (.cons g .nil)) e b n:=h
theorem sR (h:∀i,q∉(t.at i).map (·.1)):nh t q=mQ t:=by
 unfold nh mQ
 refine G3.mpr ⟨by rw [bb,fg],λx a=>?_⟩
 refine iQ x (ck.mp a) λi _=>?_
 induction b:t.step i q with
 |none=>rfl
 |some c=>exact absurd (nT.mp (by rw [show (t.at i).lookup q=some c from b];rfl)) (h i)
theorem yK.same (h:yK t a8 aM aD) (d:aM[a]? =some (nh t q)):yK t (a8++[q]) aM (aD++[(q,a+1)]) where
 keys:=by rw [b_,h.keys];rfl
 nd:=h.nd
 mem c i:=eS (h.mem c i) λx g e=>(ei x (fS _ g) e)
 at_ p b:=(eG.mp b).elim (h.at_ p) λb=>by rw [dt.mp b];exact ei a rfl d
 num:=by
  have f:=gA d
  rw [b_,show ([(q,a+1)]:List (Int×Nat)).map (·.2)=[a+1] from rfl,Bl,h.num]
  show (if a+1>aM.length+1 then none else some (max aM.length (a+1)))=_
  rw [if_neg (i6.mpr (f5 f)),BP f]
theorem yK.more (h:yK t a8 aM aD) (k:nh t q∉aM):yK t (a8++[q]) (aM++[nh t q]) (aD++[(q,aM.length+1)]) where
 keys:=by rw [b_,h.keys];rfl
 nd:=eQ.mpr (iD h.nd (eU.mpr ⟨eg,eH⟩) (λa m b i n=>k (by rw [<-dt.mp i,<-n];exact m)))
 mem c f:=(eG.mp f).elim (λf=>eS (h.mem c f) λx l e=>(ei x (fS _ l) e)) λf=>ei q (fU _ (.head _)) (dt.mp f)
 at_ p d:=(eG.mp d).elim (λd=>eS (h.at_ p d) λj e g=>(ei j e (by rw [eO (gA g)];exact g))) λd=>by
  rw [dt.mp d];exact ei aM.length rfl jC
 num:=by
  rw [b_,show ([(q,aM.length+1)]:List (Int×Nat)).map (·.2)=[aM.length+1] from rfl,Bl,h.num,bh]
  show (if aM.length+1>aM.length+1 then none else some (max aM.length (aM.length+1)))=_
  rw [if_neg (jm _),Ad (v5 _)];rfl
theorem yL (h:ng b d t) (hO:t.Ok) (hG:R1 t) (E:t.steps.length<=1000) (hP:∀tb x u s w,eC b w->x.Nodup->(∀g,g∈x↔∃i,g∈(t.at i).map (·.1))->yK t (sortI x) u s->F_ w tb t s (mQ t::u)->n (.ref tb) w):Cl (eF PG (a+7)) (.fn 64) [.ref d] b n:=by
 refine jQ [some (.ref d),none,none,none,none,none,none,none] (df _ _) rfl rfl λk hk R hR=>?_
 (injection hk with hk;subst hk)
 obtain ⟨dx,l,e,ds,hA⟩:=id h
 refine jk (g8 d3 (iO (a5 rfl)) (Ed (a:=a) (n:=λv w=>∃c x,v= .ref c/\eC b w/\x.Nodup/\(∀g,g∈x↔∃i,g∈(t.at i).map (·.1))/\w c=some (.dict ((sortI x).map λg=>(.int g,tI (nh t g))))) h hO hG E (λc x w Y hn hk lA=>⟨c,x,rfl,Y,hn,hk,lA.at_⟩) _ ?_))
 intro _ A _ lz;refine gv lz λc1 x H l1 hn ky kx=>?_;subst H
 have lu:D3 x:=λg hg=>by refine kf ((ky g).mp hg) λi z=>?_;exact hG i g z
 have kF:(sortI x).length<=5:=by rw [(sortI_perm _).length_eq];exact xP hn lu
 have kH:(sortI x).Nodup:=(sortI_perm x).symm.nodup hn
 refine zm λc2 s2 N=>zm λW s3 X=>jk (Ji (jN (yJ (sj (iO d3) λc0 s4 n4=>uX (a:=a+2) (h.le (b4 l1 (b4 N.le (b4 X.le n4.le)))) rfl _ (mul_list n4.at_ (a_ E (by unfold fG;decide)) (by rw [je,UW];exact a_ E (by unfold fG;decide)) λc5 s5 n5=>tuple_list (a:=a+5) n5.at_ λV kZ=>?_)))))
 have J:=fM (av:=.list [AV.tup (gn t.steps.length [AV.int (-1)]).flatten]) kZ
 generalize tS s5 V _=s6 at*
 have hz:AV.tup (gn t.steps.length [AV.int (-1)]).flatten=tI (mQ t):=by unfold tI mQ;rw [Bj,xY]
 rw [hz] at J
 have kq:eC s2 s5:=b4 X.le (b4 n4.le n5.le)
 have kM:eC s3 s5:=b4 n4.le n5.le
 have kJ:eC A s6:=b4 N.le (b4 kq J.le)
 have kO:=X.ne N.at_
 have kI:=J.ne (kq _ _ N.at_)
 have kV:=J.ne (kM _ _ X.at_)
 have kK:((sortI x).map λg=>(AV.int g,tI (nh t g))).map (·.1)=(sortI x).map .int:=by rw [ew];rfl
 have kP:IntKeys ((sortI x).map λg=>(AV.int g,tI (nh t g))):=λp hp=>by refine iQ p (ck.mp hp) λg _=>?_;exact oq g rfl
 refine oV (a5 rfl) (iL (.dict c1 _) (sortI x) .int (λQ hQ=>vn (kJ _ _ kx) kP (by rw [kK];exact hQ)) (λD m w=>eC A w/\(∃u s,iT A w c2 (.dict (QT u))/\iT A w W (.dict (dV s))/\iT A w V (.list ((mQ t::u).map tI))/\u.length<=D.length/\yK t D u s)/\∃w5 w6,m=[some (.ref d),some (.ref c1),some (.ref c2),some (.ref W),some (.ref V),w5,w6,none])
  (qV kJ ⟨[],[],⟨J.le _ _ (kq _ _ N.at_),N.fr⟩,⟨J.le _ _ (kM _ _ X.at_),jH N.le X.fr⟩,⟨J.at_,jH (b4 N.le kq) J.fr⟩,eK _,⟨rfl,eH,(by intros;contradiction),(by intros;contradiction),rfl⟩⟩ _ _ rfl) (λD m w h'=>(ei _ (h'.1 _ _ kx) kK)) ?_ ?_)
 .intro D g r' m s7 hD lj K hK;refine r6 m lj λU H w5 w6=>?_;refine gv H λu s C L I M F=>?_
  have kz:D.length<5:=ej (by rw [hD,bh,ff];exact gm (fC _)) kF
  have kX:=mid hD
  have lg:g∉D:=λS=>by
   rw [hD,eQ] at kH
   exact kH.2.2 g S g (.head _) rfl
  refine ei _ rfl (g_ (sg (a5 rfl) (U _ _ kx) (a5 rfl) (.inl ⟨⟨_,rfl⟩,kP⟩) (ck.mpr ⟨g,kX,rfl⟩)) ?_)
  refine yE (λm w=>eC A w/\(∃u j,iT A w c2 (.dict (QT u))/\iT A w W (.dict (dV s))/\iT A w V (.list ((mQ t::u).map tI))/\u.length<=D.length+1/\u[j]? =some (nh t g)/\yK t (D++[g]) u (s++[(g,j+1)]))/\m=[some (.ref d),some (.ref c1),some (.ref c2),some (.ref W),some (.ref V),some (.int g),some (tI (nh t g)),none])
   (λK3 kQ=>yF (Ea (aw:=decide (nh t g∈u)) (a5 rfl) (a5 rfl) C.at_ (Ee _ _) (decide_eq_true_iff.trans Gb.symm) _ ?_)) ?_
  .by_cases S:nh t g∈u
   .rw [decide_eq_true S]
    refine kf (e_.mp S) λj hj=>?_
    exact kQ _ _ (iD U ⟨u,j,C,L,I,f5 M,hj,F.same hj⟩ rfl)
   .rw [decide_eq_false S]
    refine wz (jj (a5 rfl) (f' I.at_)) (a5 rfl) C.at_ (a5 rfl) (Ee _ _) (by unfold QT;rw [xZ];exact rG (a_ M (eB kz))) λs8 u8=>?_
    rw [j2 (λq=>S (Gb.mp q)),bb,show (mQ t::u).length=u.length+1 from rfl,<-Nz] at u8
    have ly:=I.keep u8 kI.symm
    refine qE (a5 rfl) ly.at_ (by rw [bb];exact rG (a_ (fi M) kz)) (a5 rfl) λs9 B=>kQ _ _ (iD (B.le (u8.le U C.fr) I.fr) ⟨u++[nh t g],u.length,(u8.own C.fr).keep B kI,(L.keep u8 kO.symm).keep B kV,?_,by rw [bh];exact fi M,jC,F.more S⟩ rfl)
    have:=B.own (s0:=A) I.fr
    rw [show (mQ t::(u++[nh t g])).map tI=(mQ t::u).map tI++[tI (nh t g)] by rw [<-iN,b_];rfl]
    exact this
  .intro m s8 lq;refine Th m lq λl8 H=>?_;refine iW H λu j C L I M hj lx=>?_
   refine wz (sg (a5 rfl) C.at_ (a5 rfl) (Ee _ _) (Jh hj)) (a5 rfl) L.at_ (a5 rfl) (.inl ⟨(oq _ rfl),nS _⟩) ?_ λs9 B=>hK _ _ (qV (B.le l8 L.fr) ⟨u,s++[(g,j+1)],C.keep B kO,?_,I.keep B kV.symm,by rw [bh];exact M,lx⟩ _ _ rfl)
   .unfold dV;rw [bb,<-bb (f:=(·.1)),F.keys];exact rG (eB kz)
   .have:=B.own (s0:=A) L.fr
    rw [j2 (λq=>lg (by rw [<-F.keys];exact D4.mp q))] at this
    rw [show dV (s++[(g,j+1)])=dV s++[(.int g,.int (j+1:Nat))] from b_ ..]
    exact this
 .intro m s7 lI;refine r6 m lI λU H w5 w6=>?_;refine gv H λu s C L I M F=>?_
  have h7:=h.le (b4 l1 U)
  refine jk (zZ (jN (uX (a:=a+2) h7 rfl _ (tD (a:=a+5) (a_ E (by decide)) ?_))))
  have lE:(mQ t::u).length<=fG:=a_ (fi (a_ M kF)) (by unfold fG;decide)
  have lD:∀c∈mQ t::u,c.length=t.steps.length:=λc E=>by
   rcases eL.mp E with rfl |E
   .exact p3
   .refine Lk c (F.mem c E) λg _=>?_
    unfold nh;rw [bb,fg]
  refine tx .pZ (eR t.steps.length) (λk=>.int (k:Nat)) (λQ=>p8) (λO kn w=>eC s7 w/\∃G:List Nat,kn=G.map .ref/\G.length=O.length/\∀(i:Nat) r,G[i]? =some r->w r=some (.list ((mQ t::u).map λc=>.int (c.getD i (-1))))) ⟨(ee _),[],rfl,rfl,(by intros;contradiction)⟩ (λ_ _ _ _=>trivial) ?_ ?_
  .intro O y r' kn w hd lC K hK;refine G9 kn lC λY G Z kB=>?_
   refine Qq y (rq hd) λkN=>?_
   refine ei [none,some (.int O.length),some (.ref V)] rfl (Ef (tC (λc:hJ=>.int (c.getD O.length (-1))) lE (a5 rfl) (Y _ _ I.at_) (λc kW s8 l8=>⟨[none,some (tI c),some (.int O.length)],rfl,jK (px (a5 rfl) (a5 rfl) ?_) rfl⟩) _ λv s8 l8 hv=>?_))
   .have kY:O.length<c.length:=by rw [lD c kW];exact kN
    rw [ed,ec,dj kY];rfl
   .refine jo v hv λr8 o8=>?_
    refine ⟨?_,hK _ _ ⟨(b4 Y l8),(G++[r8]),(by rw [b_];rfl),(by rw [bh,bh,Z];rfl),(λi r z=>?_)⟩⟩
    .rw [bb,Z];exact ej kN (a_ E (by unfold fG;decide))
    .rcases ke i G.length with ku |ku
     .rw [eO ku] at z
      exact l8 _ _ (kB i r z)
     .rw [fm ku] at z
      have h0:i -G.length=0:=i7.mp (gA z)
      rw [h0] at z
      (injection z with z;subst z)
      rw [show i=O.length by rw [<-Z];exact iw (uq.mp h0) ku]
      exact o8.at_
  .intro kn s8 s9 c7 lF n9;refine Lw lF λY G H Z kB=>?_;subst H
   rw [fg] at Z
   have lH:=b4 Y n9.le
   refine AX (Ge (g8 d3 (iO (a5 rfl)) (tu (df 4 _) λca kT f1 f2 f3=>?_)))
   have km:=fM (av:=.inst 0 kT [(33,.ref W)]) f1
   generalize tS s9 ca _=lJ at*
   have kU:=b4 lH km.le
   have kl:=b4 l1 (b4 U kU)
   refine a5 rfl _ (jN (eP (a5 rfl) (kl _ _ hA.obj) rfl _ (list_list (a:=a+5) (kl _ _ hA.ends) λen lr kD=>AP (df 4 _) λtb kG f1 f2 f3=>?_)))
   have kC:=fM (av:=.inst 8 kG [(33,.ref ca),(58,.ref c7),(55,.ref en)]) f1
   generalize tS lr tb _=lh at*
   have T:=b4 kD.le kC.le
   refine hR _ _ _ (b4 kl T) (hP tb x u s lh (b4 kl T) hn ky F ⟨kG,ca,c7,en,G,kC.at_,⟨kT,W,T _ _ km.at_,b4 kU T _ _ L.at_⟩,b4 km.le T _ _ n9.at_,Z,λi r z=>b4 (b4 n9.le km.le) T _ _ (kB i r z),kC.le _ _ kD.at_,λg=>?_⟩)
   induction hs:s.lookup g using d_ with
   |some lB=>
    refine eS (F.at_ _ (oW hs)) λj e1 e2=>?_
    have e1:lB=j+1:=e1
    rw [e1];exact e2
   |none=>
    have lG:g∉x:=λq=>lookup_none hs (by rw [F.keys];exact ir.mpr q)
    rw [sR λi z=>lG ((ky g).mpr (oq i z))];rfl
noncomputable def yM (w:hJ) (b:Nat×Int) (r:Row):Nat×Int:=if w.take r.1.length=r.1 then (1+r.1.length,r.2) else b
noncomputable def wB (s:hJ) (b:Nat×Int) (T:Table):Nat×Int:=((T.lookup (s.headD 0)).getD []).reverse.foldl (yM (s.drop 1)) b
noncomputable def i9 (Ts:List Table) (s:hJ):Nat×Int:=Ts.reverse.foldl (wB s) (1,s.headD 0)
theorem Bm {f:v->h->v} (c:∀b x,dB b->dB (f b x)):∀(l:List h) (b:v),dB b->dB (l.foldl f b)
 |[],_,a=>a
 |x::l,b,a=>Bm c l _ (c b x a)
theorem Bn (d:List Table) (c:0<ay.length):(i9 d ay).1<=ay.length/\0<(i9 d ay).1:=by
 refine Bm (dB:=λb:Nat×Int=>b.1<=ay.length/\0<b.1) (λb T a=>Bm (dB:=λb:Nat×Int=>b.1<=ay.length/\0<b.1) (λb r a=>?_) _ b a) _ _ ⟨c,j_⟩
 unfold yM
 split
 .rename_i h
  have:=congrArg fk h
  rw [fT,eA] at this
  refine ⟨?_,?_⟩
  .show 1+r.1.length<=ay.length
   exact n1 (eZ 1 _) (zA c (n1 this.symm (qi _ _)))
  .show 0<1+r.1.length
   exact Nat.pos_of_neZero (1+fk r.fst)
 .exact a
theorem R2 (h:Ev j e b g (.ref a)) (f:b a=some (.list l)):Al j e b (.rev g) (gQ b l.reverse):=λQ i=>h _ (.mk f λc d=>i _ _ (ki d.1) (ei c rfl ((fM d).own (ee _))))
theorem P1 (k:Al j e b g λv n=>∃a,v= .ref a/\n a=some (.list l)):Al j e b (.rev g) (gQ b l.reverse):=λQ m=>k _ λv o d i=>by
 refine jo v i λa h=>?_
 exact .mk h λc f=>m _ _ (b4 d (ki f.1)) (ei c rfl ((fM f).own d))
theorem NA (l:Ev j e b g (.ref a)) (h:b a=some (.list (ay.map .int))) (i:Ev j e b D (.int d)) (k:Ev j e b aL (.int o)):Al j e b (.t_ g D aL) (gQ b (((ay.drop d).take (o -d)).map .int)):=λQ m=>l _ (i _ (k _ (.list h IZ λc f=>m _ _ (ki f.1) (ei c rfl (by rw [<-qj,<-oX,Cb];exact (fM f).own (ee _))))))
theorem R3 (r:Al j e b g (gQ b (ay.map .int))) (l:∀a,eC b a->Al j e a D (gQ a (bT.map .int))) (o:∀a,eC b a->n (.bool (decide (ay=bT))) a):Al j e b (.cmp g .eq D) n:=
 AZ r λv p i f=>by
  refine jo v f λc s=>?_
  refine qq (l p i) λv t k f=>?_
  refine jo v f λd m=>?_
  exact λQ q=>.eq (.list (k _ _ s.at_) m.at_ (wo ay) (wo bT) _ (decide_eq_true_iff.trans ⟨λh=>by rw [h],IX⟩)) (q _ (o _ (b4 i k)))
theorem NB (f:Ev (eF PG (a+1)) e b g (tI ay)):Al (eF PG (a+1)) e b (.call (.cst (.bi 10)) (.cons g .nil)) (gQ b (ay.map .int)):=
 gz d3 (iO f) λQ h=>Gd λc i d=>h _ _ d.le (ei c rfl (d.own (ee _)))
theorem CZ (h:k4 b a aK) (m:Ev j e b g (.ref a)) (n:Ev j e b D (.int q)):Al j e b (.fO g 1 (.cons D (.cons (.lst .nil) .nil))) λv w=>∃k,v= .ref k/\w k=some (.list ((((strip aK).lookup q).getD []).map ig)):=λQ r=>by
 refine DU m h.dict (.inl rfl) (n _ λc s=>?_)
 have d:=fM (av:=.list []) s
 refine ei _ (d.le _ _ h.dict) (.Ha (xJ _) ?_)
 clear m n s;by_cases i:q∈aK.map (·.1)
 .refine Qr q (D5 i) λf p u=>?_
  refine .inl (ei _ (ck.mpr ⟨f,p,rfl⟩) (r _ _ d.le ⟨_,rfl,?_⟩))
  rw [u];exact d.le _ _ (h.ls f p)
 .refine .inr ⟨by rw [uV,qJ];exact i,r _ _ d.le (ei _ rfl ?_)⟩
  have:(strip aK).lookup q=none:=by
   induction t:(strip aK).lookup q with
   |none=>rfl
   |some l=>
    refine i_ (gV.mp t) λy x f _=>?_
    exact absurd (by rw [<-ro,f];simp) i
  rw [this];exact d.at_
theorem xQ {z:List (Nat×Ent)} (ht:b d=some (.list (z.map λp=>.ref p.1))) (hE:∀p∈z,k4 b p.1 p.2) (w:b o=some (.list (a8.map .int))) (hl:a8.length<=10000):
 Cl (eF PG (a+4)) (.fn 75) [.ref d,.ref o] b (gQ b ((iK (i9 (z.map λp=>strip p.2)) a8.length a8).map .int)):=by
 refine jQ [some (.ref d),some (.ref o),none,none,none,none,none,none,none] (df _ _) rfl rfl λlx Z R hR=>?_
 (injection Z with Z;subst Z)
 generalize kC:z.map (λp=>strip p.2)=B at*
 refine sJ gS λc s1 n1=>g_ d3 (oQ a8.length (λN f x=>∃(p:Nat) (C:List Int) (w4 w5 A l r:Option AV),f=[some (.ref d),some (.ref o),some (.ref c),some (.int p),w4,w5,A,l,r]/\eC b x/\iT b x c (.list (C.map .int))/\p<=a8.length/\N=a8.length -p/\C.length<=p/\
  C++iK (i9 B) (a8.length -p) (a8.drop p)=iK (i9 B) a8.length a8)
  ⟨0,[],_,_,_,_,_,rfl,n1.le,(n1.own (ee _)),(fA _),rfl,(eK _),rfl⟩ ?_)
 intro N f x kP K hK;refine JC kP λp C w4 w5 A l r kV=>Af kV λkX W M I kM T U=>?_;subst kX;subst kM
 have kD:∀{f:MM} {b:AS},f[1]? =some (some (.ref o))->b o=some (.list (a8.map .int))->Ev (eF PG (a+3)) f b (.call (.cst (.bi 0)) (.cons (.var 1) .nil)) (.int a8.length):=λhm w=>by
  have:=jj (a:=a+2) (a5 hm) (f' w)
  rwa [bb] at this
 refine ei _ (pB (f_ (fW (a5 rfl) (kD rfl (W _ _ w)) (oe rfl)))) (λly G=>⟨λH=>?_,λH=>?_⟩)
 .have J:p<a8.length:=ib.mp (of_decide_eq_true H)
  have kq:=b4 W G
  have kH:(a8.map AV.int)[p]? =some (.int a8[p]):=by rw [ed,dj J];rfl
  have kZ:a8.drop p=a8[p]::a8.drop (p+1):=fR J
  have ky:0<(a8.drop p).length:=by rw [eA];exact i5 J
  have kG:(a8.drop p).headD 0=a8[p]:=by rw [kZ];rfl
  have lg:(a8.drop p).drop 1=a8.drop (p+1):=by rw [ip]
  refine rf (g7 (iR (ie (a5 rfl) d3 rfl) (fy (a5 rfl) (kq _ _ w) (a5 rfl) kH))) rfl (by decide) (rj (R2 (a5 rfl) (kq _ _ ht)) λv kO l3 P=>?_)
  refine jo v P λct kn=>?_
  have kz:=b4 kq l3
  rw [<-qd] at kn
  refine iL (.list ct _) z.reverse (λp=>.ref p.1) (λQ=>gJ kn.at_) (λD f x=>eC kO x/\∃(g:Nat×Int) (A l r:Option AV),f=[some (.ref d),some (.ref o),some (.ref c),some (.int p),some (.int (p+g.1:Nat)),some (.int g.2),A,l,r]/\g=(D.map λp=>strip p.2).foldl (wB (a8.drop p)) (1,a8[p]))
   (wX (ee _) (1,a8[p]) _ _ _ rfl rfl) (λ_ _ _ h=>h.1 _ _ kn.at_) ?_ ?_
  .intro D y r' f kI hD kY K2 kT;refine sC f kY λF g A l r V=>?_
   have hy:y∈z:=List.mem_reverse.mp (mid hD)
   have O:=b4 kz F
   have kK:=(hE y hy).le O
   refine ei _ rfl (rj (P1 (CZ kK (a5 rfl) (fy (a5 rfl) (O _ _ w) (a5 rfl) kH))) λv kF l5 P=>?_)
   refine jo v P λcr S=>?_
   rw [<-qd] at S
   refine iL (.list cr _) _ ig (λQ=>gJ S.at_) (λD2 f x=>eC kF x/\∃(j:Nat×Int) (l r:Option AV),f=[some (.ref d),some (.ref o),some (.ref c),some (.int p),some (.int (p+j.1:Nat)),some (.int j.2),some (.ref y.1),l,r]/\j=D2.foldl (yM (a8.drop (p+1))) g)
    (Dl (ee _) g _ _ rfl rfl) (λ_ _ _ h=>h.1 _ _ S.at_) ?_ ?_
   .intro D2 q r2 f kJ lu lq K3 kB;refine Ik f lq λE j l r L=>?_
    have kN:=b4 O (b4 l5 E)
    have kl:∀f:MM,f[3]? =some (some (.int p))->∀b,Ev (eF PG (a+3)) f b (.bin .add (.var 3) (.cst (.int 1))) (.int (p+1:Nat)):=λf hm b=>ie (a5 hm) d3 rfl
    refine ei [some (.ref d),some (.ref o),some (.ref c),some (.int p),some (.int (p+j.1:Nat)),some (.int j.2),some (.ref y.1),some (tI q.1),some (.int q.2)] rfl (pK (aw:=decide ((a8.drop (p+1)).take q.1.length=q.1)) (wu (R3 (ay:=(a8.drop (p+1)).take q.1.length) ?_ (λkW _=>NB (a:=a+2) (a5 rfl)) λ_ _=>rfl)) λkW l7=>⟨λY=>?_,λY=>?_⟩)
    .have:=NA (j:=eF PG (a+3)) (e:=[some (.ref d),some (.ref o),some (.ref c),some (.int p),some (.int (p+j.1:Nat)),some (.int j.2),some (.ref y.1),some (tI q.1),some (.int q.2)]) (g:=.var 1) (a5 rfl) (kN _ _ w) (kl _ rfl _) (ie (bN:=.add) (cf:=((p+1+q.1.length:Nat):Int)) (kl _ rfl _) (pC (a:=a+2) (a5 (a:=7) rfl)) rfl)
     rwa [ij] at this
    .refine rf (l:=[.int (p+(1+q.1.length):Nat),.int q.2]) (λQ hQ=>g7 (iR (ie (kl _ rfl _) (pC (a:=a+2) (a5 rfl)) rfl) (a5 rfl)) _ (by rw [<-fK] at hQ;exact hQ)) rfl (by decide) (kB _ _ (Dl (b4 E l7) (1+q.1.length,q.2) _ _ rfl ?_))
     rw [iY,<-L]
     exact (if_pos (of_decide_eq_true Y)).symm
    .refine kB _ _ (Dl (b4 E l7) j _ _ rfl ?_)
     rw [iY,<-L]
     exact (if_neg (of_decide_eq_false Y)).symm
   .intro f kJ lh;refine Ik f lh λE j l r L=>?_
    refine kT _ _ (wX (b4 F (b4 l5 E)) j _ _ _ rfl ?_)
    rw [b_,iY,<-V,L]
    show _=wB (a8.drop p) g (strip y.2)
    unfold wB
    rw [kG,lg]
  .intro f kI kU;refine sC f kU λF g A l r V=>?_
   have kx:g=i9 B (a8.drop p):=by
    rw [V,<-kC]
    unfold i9
    rw [kG,qd]
   have km:=Bn B ky
   rw [<-kx,eA] at km
   have kQ:p+g.1<=a8.length:=by have:=d7 km.1 p;rwa [rz I] at this
   have ku:p<p+g.1:=gm km.2
   have o4:=(M.le G).le (b4 l3 F)
   refine qE (a5 rfl) o4.at_ (by rw [bb];exact c_ (a_ T (a_ I hl)) (by unfold fG;decide)) (a5 rfl) λkF u5=>g_ (a5 rfl) (hK _ _ _ (i8 J ku) ⟨(p+g.1),(C++[g.2]),_,_,_,_,_,rfl,(u5.le (b4 kz F) M.fr),?_,kQ,rfl,?_,?_⟩)
   .rw [b_];exact u5.own M.fr
   .rw [bh];exact a_ (fi T) ku
   .have e1:=sP _ (λlj hs=>(Bn B (ay:=lj) hs).2) ky
    rw [eA,<-kx,ip,eA] at e1
    rw [eE,<-U,e1];rfl
 .have lr:p=a8.length:=iw I (gU.mp (ny.mp (of_decide_eq_false H)))
  clear ht hE w hl kC n1 I hK T kD H;subst lr
  rw [jE,show iK (i9 B) 0 (a8.drop a8.length)=[] from rfl,eT] at U
  subst U
  exact iS (a5 rfl) (hR _ _ _ (b4 W G) (ei c rfl (M.le G)))
section
noncomputable def vT (R:List Row):AV:=.tup (R.map ig)
noncomputable def Bo (c:List (List Row)):AV:=.tup (c.map vT)
theorem NC (p q:Row) (h:ig p=ig q):p=q:=by
 have a:=AV.tup.inj h
 exact Qj (Hz (ft a).1) (AV.int.inj (ft (ft a).2).1)
theorem C0 (R S:List Row) (h:vT R=vT S):R=S:=xO NC (AV.tup.inj h)
theorem Kr (c d:List (List Row)) (h:Bo c=Bo d):c=d:=xO C0 (AV.tup.inj h)
theorem C1 (n:Nat) (r:Row):iF (n+2) (ig r):=.tup _ _ λx a=>by
 cases a with
 |head=>exact yv n _
 |tail _ a=>
  cases a with
  |head=>exact .int _ _
  |tail _ a=>exact (eg a).elim
theorem tK (n:Nat) (R:List Row):iF (n+3) (vT R):=.tup _ _ λx a=>by
 refine iQ x (ck.mp a) λr _=>?_;exact C1 n r
theorem Bp (c:List (List Row)):Plain (Bo c):=.tup _ _ λx a=>by
 refine iQ x (ck.mp a) λr _=>?_;exact tK 2 r
noncomputable def z4 {α:Type} [DecidableEq α] (l:List α):List α:=l.foldl (λd x=>if x∈d then d else d++[x]) []
noncomputable def vU (W:List Row):List hJ:=[]::W.flatMap λr=>(eR r.1.length).map λk=>r.1.take (k+1)
noncomputable def rests (W:List Row):List (List Row):=z4 ((vU W).map (gI W))
noncomputable def uY (R:List (List Row)) (g:Int):List (List Row):=R.map λr=>after r g
noncomputable def ND (R:List (List Row)):List (List (List Row)):=z4 ((R.map λ_=>[])::[1,2,3,4,5].map (uY R))
section
variable {α:Type} [DecidableEq α]
theorem pE (l:List α) (x:α):z4 (l++[x])=if x∈z4 l then z4 l else z4 l++[x]:=by unfold z4;rw [iY];rfl
theorem Eg (l:List α):(z4 l).length<=l.length:=by
 induction l using snoc_ind with
 |h0=>exact eK _
 |h1 l x ih=>
  rw [pE,bh]
  split
  .exact f5 ih
  .rw [bh];exact fi ih
end
noncomputable def Gives (st:AS) (v:AV) (xs:List AV):Prop:=∀st1,eC st st1->∃it:It,(∀st2,eC st1 st2->it.ok st2)/\∀Q:It->List AV->Prop,Q it xs->om st1 Q v
theorem HV (h:b a=some (.list l)):Gives b (.ref a) l:=λf c=>ei (.list a l) (λe d=>d _ _ (c _ _ h)) (λQ=>gJ (c _ _ h))
theorem Ks:Gives b (.tup l) l:=λc a=>ei .tup (λ_ _=>trivial) (λQ h=>.tup h)
theorem Gives.le (h:Gives b i l) (d:eC b p):Gives p i l:=λc a=>h c (b4 d a)
theorem Bq (h:Gives b i (a7.map ig)) (p:a7.length<=fG) (j:∀f,eC b f->n (vT (gI a7 ay)) f):Cl (eF PG (a+3)) (.fn 78) [i,tI ay] b n:=by
 refine jQ [some i,some (tI ay)] (df _ _) rfl rfl λk c x q=>?_
 (injection c with c;subst c)
 refine si (p7 (a:=a+1) (qq (tB (λr:Row=>jv r.1 ay) (λr=>ig (r.1.drop ay.length,r.2)) a7 ig p (n:=λw _=>w=i) (jK (a5 rfl) rfl) (λw d g e=>e▸h d g) λr u d t=>
  (gp [none,some (tI r.1),some (.int r.2),some (tI ay)] rfl (tA (pB (f_ (A3 (rn (a5 rfl) (pC (a:=a+1) (a5 rfl))) (a5 rfl))))) (λ_ v _=>jK (g7 (iR (A0 (a5 rfl) (pC (a:=a+1) (a5 rfl))) (a5 rfl))) rfl))) λw s _ m=>?_) (n:=n) j) λw s l o=>q _ _ _ l o
 rw [show (gI a7 ay).map ig=_ from ew ..];exact m
theorem Eh (m:Ev j e b g i) (d:Ev j e b D (.ref a)) (c:b a=some (.list l)) (h:Plain i) (k:∀x∈l,Plain x) (f:aw=true↔i∈l):Tv j e b (.cmp g .Ck D) (!aw):=
 f_ (fW m d λQ n=>.Ck (.list h c k _ f) n)
theorem NF (h:VG PG j (VE PG j g) bD e l b bH):LA PG j .nil e b λt b=>if t then VG PG j (VE PG j g) bD e l b bH else bH l b:=h
theorem NG {W:MM->AS->(AV->AS->Prop)->Prop} (h:Nat->AV) (k:Ev j e b g (.pZ 0 a 1)) (o:l.length+a<=fG) (m:∀i,i<a->∃f,jI C (.int (i:Nat)) (Oo C e)=some f/\∀Q:AV->AS->Prop,Q (h i) b->W f b Q) (n:bH (l++(eR a).map h) b):VG PG j W (.cons C g .nil .nil) e l b bH:=by
 refine ⟨rfl,k _ (p8 ?_)⟩
 rw [Ca]
 refine vm (λ(d:List Nat) (c:List AV) s=>s=b/\c=l++d.map h) ⟨rfl,(eT _).symm⟩ ?_ ?_
 .clear k n;intro d y z c s r v x t;refine KZ s c v ?_
  obtain ⟨rfl,p⟩:=rq r
  refine eS (m _ p) λf q u=>?_
  refine tT trivial f q (u _ ⟨?_,t _ _ ⟨rfl,by rw [b_,eE];rfl⟩⟩)
  rw [bh,bb]
  exact ej (rA p _) o
 .clear k o m;intro c s w;refine KZ s c w ?_
  exact ⟨trivial,n⟩
theorem C2 (W:List Row):(vU W).length<=1+sz W:=by
 unfold vU
 rw [ff,eZ]
 refine d7 ?_ 1
 induction W with
 |nil=>exact eK _
 |cons r W a=>
  rw [iZ,bh,bb,fg]
  have:sz (r::W)=wt r+sz W:=rfl
  rw [this]
  refine fQ ?_ a
  unfold wt;exact f5 (nv _ (by decide))
end
section
section
variable {α:Type} [DecidableEq α]
theorem xR {l:List α} {x:α}:x∈z4 l↔x∈l:=by
 induction l using snoc_ind with
 |h0=>exact Iff.rfl
 |h1 l y ih=>
  rw [pE,eG,dt,<-ih]
  by_cases h:y∈z4 l
  .rw [if_pos h];exact ⟨.inl,λq=>q.elim id λq=>q▸h⟩
  .rw [if_neg h,eG,dt]
theorem NH (l:List α):(z4 l).Nodup:=by
 induction l using snoc_ind with
 |h0=>exact eH
 |h1 l y ih=>
  rw [pE]
  by_cases h:y∈z4 l
  .rw [if_pos h];exact ih
  .rw [if_neg h]
   exact eQ.mpr ⟨ih,eU.mpr ⟨eg,eH⟩,λa ha b hb q=>h (by rw [<-dt.mp hb,<-q];exact ha)⟩
end
theorem zq (c:∀a b,dE a=dE b->a=b):dE dn∈dq.map dE↔dn∈dq:=by
 rw [ck]
 exact ⟨λg=>eS g λy d e=>c _ _ e▸d,λf=>(ei dn f rfl)⟩
theorem HW (L:b d=some (.list (a7.map ig))) (V:a7.length<=5) (hz:sz a7<1000) (hP:∀kx,eC b kx->n (.tup [.int (rests a7).length,.int (ND (rests a7)).length]) kx):Cl (eF PG (a+5)) (.fn 79) [.ref d] b n:=by
 have kF:∀r∈a7,r.1.length<=sz a7:=λr U=>a_ (by unfold wt;exact f5 (nv _ (by decide)):r.1.length<=wt r) (A8 (fF U))
 have M:(vU a7).length<fG:=c_ (C2 a7) (gH (rA hz 1) (by unfold fG;decide))
 refine jQ [some (.ref d),none,none,none,none,none,none,none] (df _ _) rfl rfl λB hk R C=>?_
 (injection hk with hk;subst hk)
 refine jk (yJ (sj (iO (i:=tI []) (g7 gS)) λc0 s1 n1=>DZ (a5 rfl) (tx (.list d _) a7 ig (λQ=>gJ (n1.le _ _ L)) (λH J s=>eC s1 s/\J=(H.flatMap λr=>(eR r.1.length).map λB=>r.1.take (B+1)).map tI) ⟨ee _,rfl⟩ (λH J s h=>h.1 _ _ (n1.le _ _ L)) ?_ ?_)))
 .clear L V hP M C n1;intro H r r' J s hd kB K q;refine Vu J kB λhl=>?_
  have U:=kF r (mid hd)
  have kq:r.1.length<=1000:=a_ U (eB hz)
  refine ei [none,some (tI r.1),some (.int r.2),none] rfl (NF (NG (λB=>tI (r.1.take (B+1))) (λQ E=>jN (pC (a:=a+3) (a5 rfl) _ (tD (a:=a+3) (a_ kq (by decide)) E))) ?_ (λi kP=>⟨[none,some (tI r.1),some (.int r.2),some (.int i)],rfl,λQ E=>rn (a:=i+1) (a5 rfl) (ie (a5 rfl) d3 rfl) _ E⟩) (q _ _ ⟨hl,?_⟩)))
  .rw [bb]
   have S:=C2 H
   have h2:sz H<=sz a7:=by rw [hd,RX];exact eh _ _
   unfold vU at S
   rw [ff] at S
   exact eB (XJ S h2 hz kq)
  .rw [k9,b_,iZ,zO,eT,ew];rfl
 intro _ s2 s3 c1 kI n3;obtain ⟨km,rfl⟩:=kI
 have e0:=n3.le _ _ (km _ _ n1.at_)
 refine add_lists e0 n3.at_ ?_ λc4 O I=>?_
 .have:=M
  unfold vU at this
  rw [ff] at this
  rw [bb,je,eZ]
  exact eB this
 have kz:[tI []]++(a7.flatMap λr=>(eR r.1.length).map λB=>r.1.take (B+1)).map tI=(vU a7).map tI:=rfl
 rw [kz] at I
 have l4:eC b O:=b4 n1.le (b4 km (b4 n3.le I.le))
 refine sJ gS λc2 s5 n5=>oV (a5 rfl) (iL (.list c4 _) (vU a7) tI (λQ=>gJ (n5.le _ _ I.at_)) (λD m s=>eC O s/\iT O s c2 (.list ((z4 (D.map (gI a7))).map vT))/\∃w t,m=[some (.ref d),some (.ref c4),some (.ref c2),w,t,none,none,none]) (qV n5.le (n5.own (ee _)) _ _ rfl) (λD m s h=>h.1 _ _ I.at_) ?_ ?_)
 .intro D z r' m s6 T kM K q;refine r6 m kM λF c w t=>?_
  have kl:(z4 (D.map (gI a7))).length<fG:=c_ (Eg _) (by rw [bb];exact c_ (by rw [T,bh];exact eh _ _) M)
  refine ei _ rfl (yB (gz d3 (iR (a5 rfl) (a5 rfl)) (Bq (a:=a+1) (n:=λf _=>f=vT (gI a7 z)) (HV (F _ _ (l4 _ _ L))) (eB (rG V)) λ_ _=>rfl)) λf G l p=>?_)
  subst p
  have c:=c.le l
  refine ko (Eh (aw:=decide (gI a7 z∈z4 (D.map (gI a7)))) (a5 rfl) (a5 rfl) c.at_ (tK 3 _) (λx Z=>by refine iQ x (ck.mp Z) λy _=>?_;exact tK 3 _) (decide_eq_true_iff.trans (zq C0).symm)) (λe=>?_) λe=>?_
  .rw [fN,decide_eq_false_iff_not] at e
   refine qE (a5 rfl) c.at_ (by rw [bb];exact kl) (a5 rfl) λs8 u8=>q _ _ (qV (u8.le (b4 F l) c.fr) ?_ _ _ rfl)
   rw [b_,show [z].map (gI a7)=[gI a7 z] from rfl,pE,if_neg e,b_]
   exact u8.own c.fr
  .rw [jP,decide_eq_true_iff] at e
   refine q _ _ (qV (b4 F l) ?_ _ _ rfl)
   rw [b_,show [z].map (gI a7)=[gI a7 z] from rfl,pE,if_pos e]
   exact c
 .intro m s6 kK;refine r6 m kK λF c w t=>?_
  have c:iT O s6 c2 (.list ((rests a7).map vT)):=c
  have ku:(rests a7).length<fG:=c_ (Eg _) (by rw [bb];exact M)
  have kJ:∀R∈rests a7,R.length<=fG:=λR C=>by
   refine iQ R (ck.mp (xR.mp C)) λz _=>?_
   unfold gI
   rw [bb]
   exact a_ (G2 _ _) (eB (rG V))
  refine jk (Ji (p7 (a:=a+3) (n:=λf _=>f=Bo ((rests a7).map λ_=>[])) (qq (tC (λ_:List Row=>.tup []) (eB ku) (a5 rfl) c.at_ λR _ G _=>(ei _ rfl (jK (g7 gS) rfl))) λf s _ p=>by rw [ew];exact p) (λ_ _=>rfl) _ ?_))
  intro _ G l kD c5 ky;subst kD
  have Y:=fM (av:=.list [Bo ((rests a7).map λ_=>[])]) ky
  have kO:=Y.ne (l _ _ c.at_)
  generalize tS G c5 _=s8 at*
  have l8:=b4 F l
  refine A7 (g8 d3 (iR d3 d3) (jM (a:=a+3) (ei [1,6] rfl (.two ⟨by decide,by decide,?_⟩))))
  refine iL .pZ [1,2,3,4,5] AV.int (λQ E=>tw (a:=1) (d:=6) E) (λD m s=>eC G s/\iT G s c5 (.list ((z4 (((rests a7).map λ_=>[])::D.map (uY (rests a7)))).map Bo))/\∃w t w6 X,m=[some (.ref d),some (.ref c4),some (.ref c2),w,t,some (.ref c5),w6,X])
   (uA Y.le (Y.own (ee _)) _ _ _ _ rfl) (λ_ _ _ _=>trivial) ?_ ?_
  .intro D g r' m s9 T kG K q;refine w0 m kG λA j w t w6 X=>?_
   have W:=(c.le l).le A
   have kl:(z4 (((rests a7).map λ_=>[])::D.map (uY (rests a7)))).length<fG:=by
    refine c_ (Eg _) ?_
    rw [ff,bb]
    have:=congrArg fk T
    rw [bh] at this
    have h6:D.length<=5:=a_ (eh _ _) (gy this.symm)
    exact c_ (fi h6) (by unfold fG;decide)
   refine ei _ rfl (yB (p7 (a:=a+3) (n:=λf _=>f=Bo (uY (rests a7) g)) (qq (tC (λR=>vT (after R g)) (eB ku) (a5 rfl) W.at_ λR C kH N=>⟨[none,some (vT R),some (.int g)],rfl,gz d3 (iR (a5 rfl) (g7 (iO (a5 rfl)))) (Bq (a:=a+1) (ay:=[g]) Ks (kJ R C) λ_ _=>rfl)⟩) λf s _ p=>by unfold uY;rw [ew];exact p) λ_ _=>rfl) λf kH N p=>?_)
   subst p
   have j:=j.le N
   refine ko (Eh (aw:=decide (uY (rests a7) g∈z4 (((rests a7).map λ_=>[])::D.map (uY (rests a7))))) (a5 rfl) (a5 rfl) j.at_ (Bp _) (λx Z=>by refine iQ x (ck.mp Z) λy _=>?_;exact Bp _) (decide_eq_true_iff.trans (zq Kr).symm)) (λe=>?_) λe=>?_
   .rw [fN,decide_eq_false_iff_not] at e
    refine qE (a5 rfl) j.at_ (by rw [bb];exact kl) (a5 rfl) λkN kn=>q _ _ (uA (kn.le (b4 A N) j.fr) ?_ _ _ _ _ rfl)
    rw [b_,<-iN,show [g].map (uY (rests a7))=[uY (rests a7) g] from rfl,pE,if_neg e,b_]
    exact kn.own j.fr
   .rw [jP,decide_eq_true_iff] at e
    refine q _ _ (uA (b4 A N) ?_ _ _ _ _ rfl)
    rw [b_,<-iN,show [g].map (uY (rests a7))=[uY (rests a7) g] from rfl,pE,if_pos e]
    exact j
  .intro m s9 kC;refine w0 m kC λA j w t w6 X=>?_
   have W:=(c.le l).le A
   refine iS (g7 (iR (jj (a:=a+3) (a5 rfl) (f' W.at_)) (jj (a:=a+3) (a5 rfl) (f' j.at_)))) (C _ _ _ (b4 l4 (b4 l8 A)) ?_)
   rw [bb,bb]
   exact hP _ (b4 l4 (b4 l8 A))
end
theorem Gf {α:Type} {l d r:List α} {y:α} (h:l=d++y::r):l.drop (d++[y]).length=r:=by
 rw [h,show d++y::r=(d++[y])++r by rw [eE];rfl,i0]
theorem NI (a b:Nat):max (a:Int) b=((max a b:Nat):Int):=by
 rcases ur a b with h |h
 .rw [Ad h,qm (gU.mpr h)]
 .rw [BP h,Qo (gU.mpr h)]
theorem NJ {m:MM} {st:AS} {n:Nat} {a b:CE} {i j:Nat} (ha:Ev (eF PG (n+1)) m st a (.int i)) (hb:Ev (eF PG (n+1)) m st b (.int j)):Ev (eF PG (n+1)) m st (.call (.cst (.bi 3)) (.cons a (.cons b .nil))) (.int (max i j:Nat)):=
 xA d3 (iR ha hb) λQ hQ=>jM (.mk (.mk (.mk (show Q (.int (max (i:Int) j)) st by rw [NI];exact hQ))))
theorem B5 (N:b d=some (.list (C.map .ref))) (S:kg b C aP) (V:b o=some (.list (bU.map sl))) (hS:∀s∈aP,sortI (s.map (·.1))=s.map (·.1)/\(s.map (·.1)).Nodup/\s.length<=5) (hO:pV 1 0 aP=some aP.length) (hN:rT 0 bU=some I) (hc:aP.length<=1000) (hP:∀F,eC b F->n (.bool true) F):Cl (eF PG (a+4)) (.fn 80) [.ref d,.ref o] b n:=by
 have H:=S.length
 refine jQ [some (.ref d),some (.ref o),none,none,none,none,none] (df _ _) rfl rfl λf Z R hR=>?_
 (injection Z with Z;subst Z)
 refine g_ (i:=.int (1:Nat)) d3 (A7 (jN (jj (a:=a+2) (a5 rfl) (f' N) _ (tD (a:=a+2) (d:=(C.map AV.ref).length) (by rw [bb,H];exact a_ hc (by decide)) ?_))))
 rw [bb,H]
 refine iL .pZ (eR aP.length) (λf=>.int (f:Nat)) (λQ=>p8) (λl m s=>eC b s/\∃(f:Nat) (A j z q:Option AV),m=[some (.ref d),some (.ref o),some (.int f),A,j,z,q]/\pV f l.length (aP.drop l.length)=some aP.length) ⟨(ee _),1,_,_,_,_,rfl,hO⟩ (λ_ _ _ _=>trivial) ?_ ?_
 .intro l y r' m s1 E ku K T;refine Cj m ku λu f A j z q e=>?_
  refine Qq y (rq E) λG=>?_
  have hs:=dj G
  refine eS (S.get hs) λdd kB O=>?_
  refine mT (hS _ (fP G)) λh1 h2 h3=>?_
  rw [fR G] at e
  generalize aP[l.length]=s at*
  refine eS (jn.mp e) λk' kx e=>?_
  have Y:∀{X:zU} {m:MM} {F:AS},eC b F->m[0]? =some (some (.ref d))->m[3]? =some (some (.int l.length))->Ev X m F (.sub (.var 0) (.var 3)) (.ref dd):=λkD hm kI=>fy (a5 hm) (kD _ _ N) (a5 kI) (by rw [ed,kB];rfl)
  have kq:(dV s).map (·.1)=(s.map (·.1)).map AV.int:=by unfold dV;rw [ew,ew];rfl
  refine ei _ rfl (rj (gz d3 (iO (Y u rfl rfl)) (sM (a:=a+2) (λQ hQ=>q_ (u _ _ O) (nS _) Q (by rw [kq];exact hQ)) (by rw [bb];exact h3))) λkF W B hv=>?_)
  refine jo kF hv λc J=>?_
  rw [h1,ew] at J
  refine iL (.list c _) s (AV.int∘λp:Int×Nat=>p.1) (λQ=>gJ J.at_) (λD m s'=>eC W s'/\∃(f:Nat) (j z q:Option AV),m=[some (.ref d),some (.ref o),some (.int f),some (.int l.length),j,z,q]/\nU l.length f ((s.drop D.length).map (·.2))=some k') (wX (ee _) f _ _ _ rfl kx) (λ_ _ _ h=>h.1 _ _ J.at_) ?_ ?_
  .intro D p x m s3 P kM K2 kG;refine sC m kM λM r j z q i=>?_
   have kn:=b4 u (b4 B M)
   have km:s.drop D.length=p::x:=by rw [P,i0]
   have kl:s.drop (D++[p]).length=x:=Gf P
   rw [km] at i
   have i:(if r<=l.length\/r<p.2 then none else nU l.length (max r (p.2+1)) (x.map (·.2)))=some k':=i
   by_cases w:r<=l.length\/r<p.2
   .rw [if_pos w] at i;contradiction
   rw [if_neg w] at i
   refine iP (not_or.mp w) λg1 g2=>?_
   have ky:∀{X:zU} {m:MM},m[0]? =some (some (.ref d))->m[3]? =some (some (.int l.length))->m[4]? =some (some (.int p.1))->Ev X m s3 (.sub (.sub (.var 0) (.var 3)) (.var 4)) (.int p.2):=λkC kK c=>sg (Y kn kC kK) (kn _ _ O) (a5 c) (.inl ⟨(oq _ rfl),nS _⟩) (rP (vu h2 (mid P)))
   refine ei _ rfl (ko (MV (f_ (fW (a5 rfl) (a5 rfl) (D9 rfl))) λ_=>f_ (fW (ky rfl rfl rfl) (a5 rfl) (xN rfl))) (λL=>?_) λ_=>s_end (g_ (NJ (n:=a+2) (a5 rfl) (ie (cf:=((p.2+1:Nat):Int)) (ky rfl rfl rfl) d3 rfl)) (kG _ _ ⟨M,max r (p.2+1),_,_,_,rfl,by rw [kl];exact i⟩)))
   exfalso
   rw [j4,decide_eq_true_iff,decide_eq_true_iff] at L
   exact L.elim (λh=>g1 (gU.mp h)) λh=>g2 (ib.mp h)
  .intro m s3 kz;refine sC m kz λM r j z q i=>?_
   rw [ox] at i
   have i:some r=some k':=i
   clear N S V hS hO hN hc hP H hR E ku G kB hs O h1 h2 h3 kx Y kq hv J kz;obtain rfl:=d5 i
   exact T _ _ ⟨(b4 u (b4 B M)),_,_,_,_,_,rfl,(by rw [bh];exact e)⟩
 .intro m s1 kN;refine Cj m kN λu f A j z q e=>?_
  rw [fg,ox] at e
  have e:some f=some aP.length:=e
  obtain rfl:=d5 e
  refine g_ (i:=.int (0:Nat)) d3 (oV (a5 rfl) (iL (.list o _) bU sl (λQ=>gJ (u _ _ V)) (λD m s=>eC s1 s/\∃(g:Nat) (A j q:Option AV),m=[some (.ref d),some (.ref o),some (.int aP.length),A,j,some (.int g),q]/\rT g (bU.drop D.length)=some I) (wX (ee _) 0 _ _ _ rfl hN) (λ_ _ _ h=>h.1 _ _ (u _ _ V)) ?_ ?_))
  .intro D t x m W E kH K T;refine sC m kH λB g A j q e=>?_
   have km:bU.drop D.length=t::x:=by rw [E,i0]
   have kl:bU.drop (D++[t]).length=x:=Gf E
   rw [km] at e
   have e:(if t>g+1 then none else rT (max g t) x)=some I:=e
   by_cases w:t>g+1
   .rw [if_pos w] at e;contradiction
   rw [if_neg w] at e
   refine ei _ rfl (ko (f_ (fW (a5 rfl) (ie (cf:=((g+1:Nat):Int)) (a5 rfl) d3 rfl) (xN rfl))) (λL=>absurd (ib.mp (of_decide_eq_true L)) w) λ_=>s_end (g_ (NJ (n:=a+2) (a5 rfl) (a5 rfl)) (T _ _ ⟨B,max g t,_,_,_,rfl,by rw [kl];exact e⟩)))
  .intro m W kJ;refine sC m kJ λB g A j q e=>?_
   have U:=b4 u B
   refine iS (i:=.bool true) (fW (a5 rfl) (jj (a:=a+2) (a5 rfl) (f' (U _ _ N))) (eq_int ?_)) (hR _ _ _ U (hP _ U))
   rw [bb,H];exact (decide_eq_true rfl).symm
structure Inf where
 g:Int
 cl:Int
 un:Bool
 id:Int
 part:Int
 cnt:Int
noncomputable def Wc (I:Inf):List (Nat×AV):=[(34,.int 0),(29,.int I.g),(35,.int I.cl),(36,.int 1),(31,.bool I.un),(24,.int I.id),(25,.int I.part),(26,.int I.cnt),(30,.int 0),(37,.str []),(38,.int 0),(39,.int 0),(40,.int 0),(41,.int 0),(42,.int 0),(43,.str [])]
inductive pL (st:AS) (r:Nat) (I:Inf):Prop where
 |mk (dx:Nat) (h0:st r=some (.inst 1 dx (Wc I))):pL st r I
noncomputable def yN (st:AS) (rs:List Nat) (is:List Inf):Prop:=rs.length=is.length/\∀(i:Nat) r,rs[i]? =some r->∃I,is[i]? =some I/\pL st r I
structure Buf (s0 st:AS) (b bx row:Nat) (ll:Int) (rs:List Nat) (is:List Inf):Prop where
 le:eC s0 st
 obj:st b=some (.inst 2 bx [(28,.ref row),(44,.bool false),(45,.int ll),(46,.int 0)])
 lst:st row=some (.list (rs.map .ref))
 inf:yN st rs is
 nd:rs.Nodup
 fb:s0 b=none
 fw:s0 row=none
 fr:∀r∈rs,s0 r=none
 len:is.length<=10000
inductive Bs (st:AS) (gd:Nat):Prop where
 |mk (dx cd:Nat) (a b c d:AV) (h0:st gd=some (.inst 9 dx [(33,.ref cd),(59,a),(54,b),(60,c),(61,d)])) (h1:zl st cd []):Bs st gd
structure Oy (st:AS) (sc b:Nat):Prop where
 sc:∃dx gd lk v w,st sc=some (.inst 4 dx [(27,.ref b),(50,.ref gd),(51,v),(52,.ref lk),(36,.int 1),(53,.int 0),(32,w)])/\Bs st gd/\∃dy x y,st lk=some (.inst 3 dy [(37,.str [108,105,103,97,116,117,114,101]),(47,.int 0),(48,x),(49,y)])
theorem Bs.le (h:Bs b a) (e:eC b p):Bs p a:=let ⟨j,l,f,k,c,d,g,i⟩:=h;⟨j,l,f,k,c,d,e _ _ g,i.le e⟩
variable {aE:List Inf}
theorem yN.le (h:yN b C aE) (e:eC b p):yN p C aE:=⟨h.1,λi r f=>let ⟨I,a,d,c⟩:=h.2 i r f;⟨I,a,d,e _ _ c⟩⟩
theorem Buf.grow (h:Buf b p a d o q C aE) (c:eC p ax):Buf b ax a d o q C aE:=
 ⟨b4 h.le c,c _ _ h.obj,c _ _ h.lst,h.inf.le c,h.nd,h.fb,h.fw,h.fr,h.len⟩
theorem Buf.at_ (h:Buf b p a d o q C aE) (f:I<aE.length):∃r,C[I]? =some r/\(C.map AV.ref)[I]? =some (.ref r)/\pL p r aE[I]:=by
 have i:I<C.length:=h.inf.1▸f
 have e:=dj i
 refine eS (h.inf.2 I _ e) λj c g=>?_
 rw [dj f] at c
 obtain rfl:=d5 c
 exact gp _ e (by rw [ed,e];rfl) g
theorem zr (h:Bs b d) (e:n (.int 0) b):eF PG (a+5) (.fn 67) [.ref d,.int q] b n:=by
 obtain ⟨l,m,j,r,c,s,g,f⟩:=id h
 obtain ⟨p,k,i,o⟩:=id f
 refine gR [some (.ref d),some (.int q),none] (df 2 _) rfl rfl (g_ (i:=.int 0) (λn e=>ju (eP (a5 rfl) g rfl) i rfl rfl rfl (iO (a5 rfl)) (sh (df 3 _) f e)) (ei _ rfl (.ord rfl ⟨_,.bool _,_,ee _,e⟩)))
theorem Bt (f:∀e,eC b e->n (.int 0) e):eF PG (a+3) (.fn 22) [.int 0] b n:=by
 refine gR [some (.int 0)] (df 2 _) rfl rfl (gp [(1,.int 2),(2,.int 4),(3,.int 8)] rfl (by decide) (λc g=>?_))
 have d:=fM (av:=.dict ([(1,.int 2),(2,.int 4),(3,.int 8)].map λp:Int×AV=>(.int p.1,p.2))) g
 exact .dict d.at_ (.inl rfl) (Dk _ rfl _ d.at_ (.Ha (λp h=>by refine iQ p (ck.mp h) λq _=>?_;exact ⟨_,rfl⟩) (.inr ⟨by simp,_,ee _,f _ d.le⟩)))
noncomputable def Ei (g:Int):AV:=.tup [.str [103,108,121,112,104],.int g]
noncomputable def Gg (w:hJ):AV:=.tup (w.map Ei)
theorem P2 (h:Al j e b (.bin bN g D) λv _=>v= .int 0):At j e b (.bin bN g D) false:=λQ c=>h _ λv d a f=>by subst f;exact ei _ (.int 0) (c d a)
theorem P4 (c:aw=decide (q<=aB)) (Q:Bool->Prop) (a:Q aw):pR b Q .le (.int q) (.int aB):=.ord (congrArg some c.symm) a
theorem P5 {p:Om} (h:VE PG j g e b λv b=>VE PG j D e b λw b=>pR b (λr=>if r then VE PG j aL e b λu b=>pR b (λr=>∃t,nQ b (.bool r) t/\bM t b) p w u else ∃t,nQ b (.bool false) t/\bM t b) bE v w):VT PG j (.EV g bE D p aL) (VE PG j (.EV g bE D p aL)) e b bM:=h
theorem zJ (h:Bs b d) (m:b o=some (.inst 3 I [(37,i),(47,.int 0),(48,af),(49,b7)])):Cl (eF PG (a+6)) (.fn 23) [.ref d,.ref o,.int q] b λl _=>l= .bool false:=by
 refine jQ [some (.ref d),some (.ref o),some (.int q),none,none] (df _ _) rfl rfl λi f R p=>?_
 (injection f with f;subst f)
 obtain ⟨u,w,r,y,c,x,k,s⟩:=id h
 refine g_ (i:=.int 0) (λQ g=>ju (a5 rfl) k rfl rfl rfl (iO (a5 rfl)) (zr (a:=a) h g)) ?_
 refine pK (aw:=false) (P2 λQ g=>wx (eP (a5 rfl) m rfl) (g8 d3 (iO (a5 rfl)) (Bt (a:=a+2) λj e=>.int rfl (g _ j e rfl)))) λj e=>⟨(by intros;contradiction),λ_=>?_⟩
 exact s_end (ko (aw:=true) (f_ (fW (a5 rfl) d3 (ne_int rfl))) (λ_=>iS d3 (p _ _ _ e rfl)) (by intros;contradiction))
theorem Gh (c:Buf b p o I ak q C aE) (h:Oy b d o) (z:aI<aE.length):Cl (eF PG (a+7)) (.fn 24) [.ref d,.int aI] p λv _=>v= .bool false:=by
 refine jQ [some (.ref d),some (.int aI)] (df _ _) rfl rfl λk f R m=>?_
 (injection f with f;subst f)
 refine zR h.sc λK D G v w s=>mT s λg t A=>Ij A λH x y B=>?_
 obtain ⟨r,E,u,J,l⟩:=c.at_ z
 have e:=c.le _ _ g
 exact si (gz d3 (vH (eP (a5 rfl) e rfl) (eP (a5 rfl) e rfl) (eP (fy (eP (eP (a5 rfl) e rfl) c.obj rfl) c.lst (a5 rfl) u) l rfl)) (zJ (a:=a) (t.le c.le) (c.le _ _ B))) λv F i j=>m _ _ _ i j
theorem eq_str (a:∀c∈C,c<128) (Q:Bool->Prop) (d:Q true):pR b Q .eq (.str C) (.str C):=.eq (.plain (.str _ C a) (.str _ C a) true ⟨λ_=>rfl,λ_=>rfl⟩) d
theorem C3 (c:n (.bool (decide (q=aB))) b):eF PG (a+3) (.fn 26) [Ei q,.int aB] b n:=
 gR [some (Ei q),some (.int aB)] (df 2 _) rfl rfl (ko (aw:=true) (f_ (fW (px (a:=0) (a5 rfl) d3 rfl) d3 (eq_str (by decide)))) (λ_=>iS (fW (px (a:=1) (a5 rfl) d3 rfl) (a5 rfl) (eq_int rfl)) (ei _ (ee _) c)) (by intros;contradiction))
variable {cw:Inf}
theorem HX (f:Oy b d o) (g:eC b p) (c:pL p I cw) (h:n (.bool true) p):eF PG (a+3) (.fn 27) [.ref d,.ref I] p n:=by
 refine Ah f.sc λj l m v w e _=>?_
 obtain ⟨i,c⟩:=c
 exact gR [some (.ref d),some (.ref I)] (df 2 _) rfl rfl (iS (fW (ie (cf:=1) (eP (a5 rfl) c rfl) (eP (a5 rfl) (g _ _ e) rfl) rfl) d3 (ne_int rfl)) (ei _ (ee _) h))
theorem HY (f:ay.length<=fG):Cl (eF PG (a+3)) (.fn 25) [tI ay] b λv _=>v=Gg ay:=by
 refine jQ [some (tI ay)] (df _ _) rfl rfl λk d R j=>?_
 (injection d with d;subst d)
 refine si (p7 (a:=a+1) (n:=λv _=>v=Gg ay) (qq (tB (λ_=>true) Ei ay AV.int f (n:=λv _=>v=tI ay) (jK (a5 rfl) rfl) (λv i _ e=>(ei .tup (λ_ _=>trivial) (by rw [e];exact λQ h=>.tup h))) λg _ i _=>(gp _ rfl xE (λ_ m _=>jK (g7 (iR d3 (a5 rfl))) rfl))) λv s _ c=>?_) λ_ _=>rfl) λv s l c=>j _ _ _ l c
 rwa [jz.mpr λ_ _=>rfl] at c
theorem HZ (e:Buf b p o I ak q C aE) (r:Oy b d o):
 Cl (eF PG (a+8)) (.fn 28) [.ref d,.int aI,.int 1,Ei aB,.tup [.str [122,119,106],.str [104,105,100,100,101,110]],.bool true] p λJ _=>J=if (aE.map (·.g))[aI+1]? =some aB then .int (aI+1:Nat) else .int (-1):=by
 refine jQ [some (.ref d),some (.int aI),some (.int 1),some (Ei aB),some (.tup [.str [122,119,106],.str [104,105,100,100,101,110]]),some (.bool true),none,none] (df _ _) rfl rfl λk B R l=>?_
 (injection B with B;subst B)
 refine Ah r.sc λdx gd lk J w P _=>?_
 refine g_ (i:=.int (aI+1:Nat)) (ie (a5 rfl) (a5 rfl) rfl) (oQ 0 (λN j s=>s=p/\j=[some (.ref d),some (.int aI),some (.int 1),some (Ei aB),some (.tup [.str [122,119,106],.str [104,105,100,100,101,110]]),some (.bool true),some (.int (aI+1:Nat)),none]) ⟨rfl,rfl⟩ ?_)
 intro N j s kl K U;clear U;obtain ⟨rfl,rfl⟩:=kl
 have W:=e.le _ _ P
 have H:∀{X:zU} {j:MM} {M:AS},eC s M->j[0]? =some (some (.ref d))->Ev X j M (.attr (.attr (.var 0) 27) 28) (.ref ak):=λL Y=>eP (eP (a5 Y) (L _ _ W) rfl) (L _ _ e.obj) rfl
 refine ei (decide (aI+1<aE.length)) (λQ g=>?_) (λs1 y=>⟨λD=>?_,λD=>?_⟩)
 .have F:=jj (a:=a+6) (H (j:=[some (.ref d),some (.int aI),some (.int 1),some (Ei aB),some (.tup [.str [122,119,106],.str [104,105,100,100,101,110]]),some (.bool true),some (.int (aI+1:Nat)),none]) (ee _) rfl) (f' e.lst)
  rw [bb,e.inf.1] at F
  refine P5 (d3 _ (a5 rfl _ (P4 (decide_eq_true (gF (aI+1))).symm _ ?_)))
  rw [if_pos rfl]
  exact F _ (oe (decide_eq_decide.mpr ib.symm) _ (ei _ (.bool _) (g _ (ee _))))
 .have A:=of_decide_eq_true D
  have e:=e.grow y
  refine gi (e.at_ A) λri hr km i=>?_
  have T:(aE.map (·.g))[aI+1]? =some aE[aI+1].g:=by rw [ed,dj A];rfl
  rw [T] at l
  refine pK (aw:=true) (yA (aw:=false) (rQ (gz d3 (iR (a5 rfl) (a5 rfl)) (Gh (a:=a) e r A)))) λs2 u=>⟨λ_=>?_,(by intros;contradiction)⟩
  have e:=e.grow u
  have z:=b4 y u
  have i:pL s2 ri aE[aI+1]:=let ⟨V,i⟩:=i;⟨V,u _ _ i⟩
  obtain ⟨dr,G⟩:=id i
  refine g_ (fy (H z rfl) e.lst (a5 rfl) km) ?_
  refine ko (aw:=decide (aB=aE[aI+1].g)&&true) (yx (λQ g=>g8 d3 (iR (a5 rfl) (eP (a5 rfl) G rfl)) (C3 (a:=a+4) (ei _ (.bool _) g))) λ_=>MV (aw:=true) (bO:=true) (λQ g=>g8 d3 (iR (a5 rfl) (a5 rfl)) (HX (a:=a+4) r e.le i (ei _ (.bool _) g))) (by intros;contradiction)) (λf=>?_) λf=>?_
  .rw [Q8,decide_eq_true_iff] at f
   exact iS (a5 rfl) (l _ _ _ z (if_pos (congrArg some f.symm)).symm)
  .rw [Q8,decide_eq_false_iff_not] at f
   have O:∀s:List Nat,(∀S∈s,S<128)->Plain (.str s):=λs Z=>.str _ s Z
   refine s_end (ko (aw:=true) (f_ (fW (eP (a5 rfl) G rfl) (a5 rfl) λQ g=>.Ck (.tup (.str _ _ (by decide)) (λx f=>?_) false ⟨(by intros;contradiction),λh=>?_⟩) g)) (λ_=>iS (wq d3) (l _ _ _ z (if_neg λE=>f (d5 E).symm).symm)) (by intros;contradiction))
   .cases f with
    |head=>exact O _ (by decide)
    |tail _ f=>
     cases f with
     |head=>exact O _ (by decide)
     |tail _ f=>exact (eg f).elim
   .cases h with
    |tail _ h=>
     cases h with
     |tail _ h=>exact (eg h).elim
 .refine iS (wq d3) (l _ _ _ y (if_neg λE=>?_).symm)
  exact of_decide_eq_false D (by have:=gA E;rwa [bb] at this)
theorem prefix_at {X:List h} (a:dq++dn::dT<+:X):X[dq.length]? =some dn:=by
 refine kf a λs b=>?_;subst b
 rw [eE,fm (eK _),jE];rfl
theorem Gi (b:dq<+:dT) (a:dT[dq.length]? =some dn):dq++[dn]<+:dT:=by
 obtain ⟨s,rfl⟩:=b
 rw [fm (eK _),jE] at a
 induction s using el with
 |nil=>contradiction
 |cons x s=>(injection a with a;subst a);exact oq s (by rw [eE];rfl)
noncomputable def jw (at_ k:Nat):List AV:=(eR k).map λi=>sl (at_+i)
theorem NK (c:Ev j e b g (.tup l)) (f:Ev j e b D (.int a)):Ev j e b (.t_ g D (.cst .none)) (.tup (l.drop a)):=λQ d=>c _ (f _ (.tup AY d))
theorem Jj (k:Ev j e b g (.ref a)) (h:b a=some (.list l)) (i:Ev j e b D (.int d)):Al j e b (.t_ g D (.cst .none)) (gQ b (l.drop d)):=λQ m=>MX k h i λc f=>m _ _ (ki f.1) (ei c rfl ((fM f).own (ee _)))
theorem z5 (d:Ev j e b g (.ref a)) (c:b a=some (.list (l++[i]))):Ev j e b (.sub g (.neg (.cst (.int 1)))) i:=DT d (wq d3) λQ f=>.list c (by
 unfold itemAt
 rw [if_neg (by decide),if_pos (show (-1:Int).natAbs<=(l++[i]).length by rw [bh];exact df _ _),bh]
 exact jC) f
theorem qb (a k:Nat):jw a (k+1)=jw a k++[sl (a+k)]:=by unfold jw;rw [List.range_succ,b_];rfl
theorem H0 (g:Buf b p o I ak q C aE) (E:Oy b d o) (A:(aE.map (·.g))[aI]? =some aB) (V:ay.length<=1000):
 Cl (eF PG (a+9)) (.fn 29) [.ref d,.int aI,Gg (aB::ay)] p λv km=>(ay<+:(aE.map (·.g)).drop (aI+1)/\∃c,v= .ref c/\iT p km c (.list (jw aI (ay.length+1))))\/(¬ay<+:(aE.map (·.g)).drop (aI+1)/\v= .none):=by
 refine jQ [some (.ref d),some (.int aI),some (Gg (aB::ay)),none,none,none] (df _ _) rfl rfl λkx y R G=>?_
 (injection y with y;subst y)
 have O:aI<aE.length:=by have:=gA A;rwa [bb] at this
 obtain ⟨ri,ky,Y,dr,T⟩:=g.at_ O
 have kl:aB=aE[aI].g:=by rw [ed,dj O] at A;exact (d5 A).symm
 refine Ah E.sc λdx gd lk v w P _=>?_
 have kn:=g.le _ _ P
 refine pK (aw:=false) (yA (aw:=true) (rQ λQ W=>g8 d3 (iR (px (a:=0) (a5 rfl) d3 rfl) (eP (fy (eP (eP (a5 rfl) kn rfl) g.obj rfl) g.lst (a5 rfl) Y) T rfl)) (C3 (a:=a+5) (W _ _ (ee _) (congrArg _ (decide_eq_true kl)))))) λs1 M=>⟨(by intros;contradiction),λ_=>s_end ?_⟩
 refine sJ (iO (a5 rfl)) λc s2 N=>oV (NK (a:=1) (a5 rfl) d3) (iL .tup ay Ei (λQ h=>.tup h) (λD m s=>eC p s/\iT p s c (.list (jw aI (D.length+1)))/\D<+:(aE.map (·.g)).drop (aI+1)/\∃z u,m=[some (.ref d),some (.int aI),some (Gg (aB::ay)),some (.ref c),z,u]) (wV (b4 M N.le) (N.own M) uu _ _ rfl) (λ_ _ _ _=>trivial) ?_ ?_)
 .intro D j r' m S F X K U;refine zS m X λf e r z u=>?_
  refine ei _ rfl ?_
  have H:=e.at_
  rw [qb] at H
  refine yB (gz d3 (oK (a5 rfl) (oK (z5 (a5 rfl) H) (oK d3 (vH (a5 rfl) d3 d3)))) (HZ (a:=a) (aI:=aI+D.length) (g.grow f) E)) λv s4 B i=>?_
  have J:∀x,(aE.map (·.g))[aI+D.length+1]? =some x↔((aE.map (·.g)).drop (aI+1))[D.length]? =some x:=λx=>by
   rw [pf,g5]
  have kq:D.length<ay.length:=by rw [F,bh,ff];exact gm (fC _)
  by_cases l:(aE.map (·.g))[aI+D.length+1]? =some j
  .rw [if_pos l] at i
   subst i
   have o4:=e.le B
   refine ko (aw:=false) (f_ (fW (a5 rfl) d3 (oe (decide_eq_false (ny.mpr (gF _))).symm))) (by intros;contradiction) λ_=>s_end (qE (a5 rfl) o4.at_ ?_ (a5 rfl) λs5 L=>U _ _ (wV (L.le (b4 f B) e.fr) ?_ (Gi r ((J j).mp l)) _ _ rfl))
   .unfold jw;rw [bb,fg];exact c_ (a_ kq V) (by unfold fG;decide)
   .rw [bh,show D.length+[j].length+1=(D.length+1)+1 from rfl,qb]
    exact L.own e.fr
  .rw [if_neg l] at i
   subst i
   exact ko (aw:=true) (f_ (fW (a5 rfl) d3 (oe rfl))) (λ_=>iS d3 (G _ _ _ (b4 f B) (.inr ⟨λZ=>l ((J j).mpr (prefix_at (F▸Z))),rfl⟩))) (by intros;contradiction)
 .intro m S ku;refine zS m ku λf e r z u=>?_
  exact iS (a5 rfl) (G _ _ _ f (.inl (tT r c rfl e)))
theorem Bu (c:pL b d cw) (e:cw.id=0) (f:n (.bool false) b):eF PG (a+3) (.fn 30) [.ref d] b n:=by
 obtain ⟨g,c⟩:=c
 refine gR [some (.ref d)] (df 2 _) rfl rfl (iS (i:=.bool false) (Nq (aw:=false) (bO:=false) (fW (eP (a5 rfl) c rfl) d3 (ne_int (by rw [e];rfl))) (by intros;contradiction)) (ei _ (ee _) f))
theorem vy (b:o<d):(jw a d)[o]? =some (.int (a+o:Nat)):=by unfold jw;rw [ed,jy b];rfl
theorem B6 (E:b d=some (.list (C.map .ref))) (J:yN b C aE) (L:b o=some (.list (jw I (ak+1)))) (G:I+ak<aE.length) (hf:∀j c,I<=j->aE[j]? =some c->c.id=0):
 Cl (eF PG (a+5)) (.fn 31) [.ref d,.ref o] b λv _=>v= .bool true:=by
 have H:∀j,I+j<aE.length->∃r c,(C.map AV.ref)[I+j]? =some (.ref r)/\pL b r c/\c.id=0:=λj hj=>by
  have U:I+j<C.length:=J.1▸hj
  have e:=dj U
  refine eS (J.2 _ _ e) λc p g=>?_
  exact mU _ c (by rw [ed,e];rfl) g (hf _ c (eh _ _) p)
 refine jQ [some (.ref d),some (.ref o),none,none,none] (df _ _) rfl rfl λk' x R Y=>?_
 (injection x with x;subst x)
 refine jU (H 0 (c_ (eh _ _) G)) λX I0 p g h3=>?_
 refine g_ (fy (a5 rfl) E (fy (d:=0) (a5 rfl) L d3 (vy (fC _))) p) (rj (Jj (d:=1) (a5 rfl) L d3) λv s1 F N=>?_)
 refine jo v N λc1 w=>?_
 have kl:(jw I (ak+1)).drop 1=(eR ak).map λi=>sl (I+(1+i)):=by
  unfold jw
  rw [<-oX,uj,List.drop_succ_cons,rJ,ew]
  exact fo λi _=>by show sl (I+(i+1))=_;rw [eZ i]
 rw [kl] at w
 refine iL (.list c1 _) (eR ak) (λi=>sl (I+(1+i))) (λQ=>gJ w.at_) (λD m s=>eC s1 s/\∃A z,m=[some (.ref d),some (.ref o),some (.ref X),A,z]) ⟨(ee _),_,_,rfl⟩ (λ_ _ _ h=>h.1 _ _ w.at_) ?_ ?_
 .intro D y r' m s2 O kn K T;refine Cf kn λl A z f=>?_;subst f
  refine Qq y (rq O) λP=>?_
  refine jU (H (1+D.length) (by exact y3 G P)) λry Iy W f M=>?_;obtain ⟨Z,V⟩:=f
  have u:=b4 F l
  obtain ⟨d0,g⟩:=g
  refine ei _ rfl (g_ (fy (a5 rfl) (u _ _ E) (a5 rfl) W) ?_)
  refine pK (aw:=false) (rQ λQ q=>g8 d3 (iO (a5 rfl)) (Bu (a:=a+1) ⟨d0,u _ _ g⟩ h3 (q _ _ (ee _) rfl))) λs3 B=>⟨(by intros;contradiction),λ_=>?_⟩
  have S:=b4 u B
  exact ko (aw:=false&&false) (yx (λQ q=>g8 d3 (iO (a5 rfl)) (Bu (a:=a+1) ⟨Z,S _ _ V⟩ M (ei _ (.bool _) q))) (by intros;contradiction)) (by intros;contradiction) λ_=>T _ _ ⟨(b4 l B),_,_,rfl⟩
 .intro m s2 km;refine Cf km λl A z f=>?_;subst f
  exact iS d3 (Y _ _ _ (b4 F l) rfl)
noncomputable abbrev Kt:AV:=.str [108,105,103,97,116,117,114,101]
noncomputable def sS (is is':List Inf):Prop:=is'.length=is.length/\∀(j:Nat) I',is'[j]? =some I'->∃I,is[j]? =some I/\I'.g=I.g/\I'.id=I.id
theorem sS.refl (a:List Inf):sS a a:=⟨rfl,λj I h=>(gp I h rfl rfl)⟩
variable {cy:List Inf}
theorem sS.trans {c:List Inf} (h:sS aE cy) (a:sS cy c):sS aE c:=⟨a.1.trans h.1,λj I e=>by
 refine gi (a.2 j I e) λJ b d k=>?_
 refine gi (h.2 j J b) λK g i f=>?_
 exact (gp K g (d.trans i) (k.trans f))⟩
theorem sS.Wd (h:sS aE cy):cy.map (·.g)=aE.map (·.g):=by
 refine sy λj=>?_
 rw [ed,ed]
 induction a:cy[j]? with
 |none=>
  have:=ix.mp a
  rw [h.1] at this
  rw [iC this]
 |some I=>
  refine gi (h.2 j I a) λJ b c _=>?_
  rw [b];exact congrArg some c
theorem NL {c:Inf} (e:aE[a]? =some cw) (h:c.g=cw.g/\c.id=cw.id):sS aE (aE.set a c):=⟨gK,λj J b=>by
 rw [nN] at b
 by_cases d:a=j
 .subst d
  rw [if_pos rfl,if_pos (gA e)] at b
  obtain rfl:=d5 b;exact ei cw e h
 .rw [if_neg d] at b;exact (gp J b rfl rfl)⟩
theorem Buf.upd {I':Inf} (h:Buf b p a d o q C aE) (g:C[ak]? =some I) (f:B3 p ax I) (v:pL ax I I'):Buf b ax a d o q C (aE.set ak I'):=by
 obtain ⟨y,w,z,l⟩:=h.inf.2 ak I g
 have m:=h.fr I (fj g)
 refine ⟨λx u e=>(f x λc=>by rw [c,m] at e;contradiction).trans (h.le x u e),(f a λc=>by have:=oo h.obj (c▸l);(injection this;contradiction)).trans h.obj,(f o λc=>by have:=oo h.lst (c▸l);contradiction).trans h.lst,⟨by rw [gK];exact h.inf.1,λj r i=>?_⟩,h.nd,h.fb,h.fw,h.fr,by rw [gK];exact h.len⟩
 obtain ⟨J,s,t,n⟩:=h.inf.2 j r i
 rw [nN]
 by_cases k:ak=j
 .clear h f l m s n;subst k
  rw [g] at i;obtain rfl:=d5 i
  rw [if_pos rfl,if_pos (gA w)]
  exact ei I' rfl v
 .rw [if_neg k]
  exact ⟨J,s,t,(f r λc=>k (yI h.nd g (c▸i))).trans n⟩
theorem Buf.with (h:Buf b p a d o q C aE) (j:eC p ax) (k:iT p ax I av):Buf (b.set I av) ax a d o q C aE:=by
 have c:∀x l,p x=some l->b x=none->(b.set I av) x=none:=λx l e s=>(gu λt=>by rw [t,k.fr] at e;contradiction).trans s
 have g:=h.grow j
 refine ⟨(tH h.le j k).2,g.obj,g.lst,g.inf,g.nd,c _ _ h.obj h.fb,c _ _ h.lst h.fw,λr f=>?_,h.len⟩
 obtain ⟨i,m⟩:=e_.mp f
 obtain ⟨u,_,v,n⟩:=h.inf.2 i r m
 exact c _ _ n (h.fr r f)
theorem Buf.base (h:Buf ax p a d o q C aE) (c:eC b ax):Buf b p a d o q C aE:=
 ⟨b4 c h.le,h.obj,h.lst,h.inf,h.nd,jH c h.fb,jH c h.fw,λr e=>jH c (h.fr r e),h.len⟩
theorem Buf.zip (h:Buf b p a d o q C aE):C.map AV.ref=(C.zip aE).map (λc=>.ref c.1)/\∀c∈C.zip aE,pL p c.1 c.2:=by
 constructor
 .rw (config:={}) [show (λc:Nat×Inf=>AV.ref c.1)=AV.ref∘y6 from rfl,<-ew,List.map_fst_zip (gy h.inf.1)]
 .intro c j
  refine kf (e_.mp j) λi k=>?_
  obtain ⟨f,g⟩:=List.getElem?_zip_eq_some.mp k
  refine eS (h.inf.2 i _ f) λI e l=>?_
  rw [g] at e;obtain rfl:=d5 e
  exact l
theorem Gj (p:Al j e b g (gQ b l)) (o:∀x∈l,Plain x) (m:∀f,eC b f->n (.bool (!decide (l=[]))) f):Al j e b (.cmp g .ne (.lst .nil)) n:=
 AZ p λv t q i=>by
  refine jo v i λc s=>?_
  exact λQ r d a=>r _ _ (ki a.1) λu k=>.ne (.list ((fM a).le _ _ s.at_) (fM a).at_ o (λ_ h=>absurd h eg) _ decide_eq_true_iff) (k _ (m _ (b4 q (fM a).le)))
theorem NM (h:Bs b d) (w:b o=some (.list (ay.map .int))) (y:2<=ay.length) (A:ay.length<=fG):Cl (eF PG (a+6)) (.fn 37) [.ref d,.ref o] b λu _=>u=Kt:=by
 refine jQ [some (.ref d),some (.ref o)] (df _ _) rfl rfl λI p R C=>?_
 (injection p with p;subst p)
 refine pK (aw:=true) (wu (Gj (FN (λ_=>true) AV.int (dq:=ay.drop 1) (dE:=AV.int) (a_ (by rw [eA];exact jS _ _) A) (by have:=Jj (j:=eF PG (a+5)) (e:=[some (.ref d),some (.ref o)]) (g:=.var 1) (D:=.cst (.int 1)) (d:=1) (a5 rfl) w d3;rwa [<-oX] at this) λg _ r j=>(gp [none,some (.int g),some (.ref d)] rfl (tA (pB (f_ (fW (i:=.int 0) (λQ B=>?_) d3 (ne_int rfl))))) (λ_ H _=>jK (a5 rfl) rfl))) (λx z=>?_) λr j=>?_)) λr j=>⟨λ_=>iS d3 (C _ _ _ j rfl),(by intros;contradiction)⟩
 .obtain ⟨F,G,D,J,c,K,s,E⟩:=h.le j
  exact ju (a5 rfl) s rfl rfl rfl (iO (a5 rfl)) (zr (a:=a) (h.le j) B)
 .refine iQ x (ck.mp z) λg _=>?_;exact .int _ _
 .rewrite [jz.mpr λ_ _=>rfl,decide_eq_false λq=>?_]
  .rfl
  .have:=congrArg fk q
   rw [bb,eA] at this
   exact ya.mpr y (nK this)
theorem yO (c:pL b d cw) (i:∀e f,B3 b f d->pL f d e->e.g=cw.g/\e.id=cw.id->n .none f):eF PG (a+3) (.fn 15) [.ref d,.int q] b n:=by
 obtain ⟨g,c⟩:=c
 refine gR [some (.ref d),some (.int q)] (df 2 _) rfl rfl (ko (f_ (fW (eP (a5 rfl) c rfl) (a5 rfl) (ne_int rfl))) (λ_=>?_) λ_=>(ei _ (ee _) (i cw b (λ_ _=>rfl) ⟨g,c⟩ ⟨rfl,rfl⟩)))
 refine iu (a5 rfl _ (jd (a5 rfl) c λl u1=>iu (d3 _ (jd (a5 rfl) u1.at_ λk u2=>(ei _ (ee _) (i ⟨cw.g,q,false,cw.id,cw.part,cw.cnt⟩ k (λj h=>(u2.ne j h).trans (u1.ne j h)) ⟨g,u2.at_⟩ ⟨rfl,rfl⟩))))))
theorem B7 (c:Buf b p d o I q C aE) (l:∀h,Buf b h d o I (q+1) C aE->n (.int (q+1)) h):eF PG (a+3) (.fn 13) [.ref d] p n:=by
 refine gR [some (.ref d)] (df 2 _) rfl rfl (iu (ie (eP (a5 rfl) c.obj rfl) d3 rfl _ (jd (a5 rfl) c.obj λs u1=>iS (eP (a5 rfl) u1.at_ rfl) (ei _ (ee _) (l s ?_)))))
 refine ⟨u1.le c.le c.fb,u1.at_,(u1.ne I λf=>by have e:=c.lst;rw [f,c.obj] at e;(injection e;contradiction)).trans c.lst,⟨c.inf.1,λi r k=>?_⟩,c.nd,c.fb,c.fw,c.fr,c.len⟩
 obtain ⟨j,e,m,g⟩:=c.inf.2 i r k
 exact ⟨j,e,m,(u1.ne r λf=>by have:=oo g (f▸c.obj);(injection this;contradiction)).trans g⟩
theorem zK (e:pL b d cw) (c:n (.int (max cw.cnt 1)) b):eF PG (a+3) (.fn 36) [.ref d] b n:=by
 obtain ⟨f,e⟩:=e
 exact gR [some (.ref d)] (df 2 _) rfl rfl (iS (xA d3 (iR (eP (a5 rfl) e rfl) d3) λn c=>jM (a:=a+1) (.mk (.mk (.mk c)))) (ei _ (ee _) c))
theorem zL {d:Int} (e:n .none b):eF PG (a+3) (.fn 39) [i,.int q,.int 0,.int aB,.int cf,.int d] b n:=by
 refine gR [some i,some (.int q),some (.int 0),some (.int aB),some (.int cf),some (.int d),none] (df 2 _) rfl rfl (g_ (a5 rfl) (oQ 0 (λN m s=>s=b/\m=[some i,some (.int q),some (.int 0),some (.int aB),some (.int cf),some (.int d),some (.int q)]) ⟨rfl,rfl⟩ ?_))
 intro N m s f K h;refine KZ s m f ?_
 refine ei (false&&false) (λn e=>yx (aw:=false) (bO:=false) (f_ (fW (a5 rfl) d3 (xN rfl))) (λcf=>nomatch cf) _ (e _ (ee _))) (λj g=>⟨(by intros;contradiction),λ_=>⟨_,g,e⟩⟩)
noncomputable def SI (is:List Inf) (i:Nat):Int:=((is[i]?).map Inf.cl).getD 0
theorem Ku (h:0<a):((a:Int) -1)=((a -1:Nat):Int):=by exact (Sn h).symm
theorem min_mem:∀(l:List Int),l≠[]->∃m∈l,∀x∈l,m<=x
 |[x],_=>ei x (.head _) (λy d=>by rw [dt.mp d];exact v9 _)
 |x::y::l,_=>by
  refine eS (min_mem (y::l) (oy _ _)) λm c b=>?_
  rcases Td m x with h |h
  .exact ei m (.tail _ c) (λz a=>(eL.mp a).elim (λe=>e▸h) (b z))
  .exact ei x (.head _) (λz a=>(eL.mp a).elim (λe=>e▸v9 _) λa=>jG h (b z a))
theorem Jk (k:b a=some (.list (C.map .ref))) (f:yN b C aE) (p:e[o]? =some (some (.ref a))) (m:Ev j e b g (.int d)) (l:d<aE.length):Ev j e b (.attr (.sub (.var o) g) 35) (.int (SI aE d)):=by
 have n:d<C.length:=f.1▸l
 have c:=dj n
 obtain ⟨I,h,q,i⟩:=f.2 _ _ c
 unfold SI
 rw [h]
 exact eP (fy (a5 p) k m (by rw [ed,c];rfl)) i rfl
theorem yN.WM (h:b a=some (.list (C.map .ref))/\yN b C aE) (c:eC b p):p a=some (.list (C.map .ref))/\yN p C aE:=⟨c _ _ h.1,h.2.le c⟩
theorem Ej (i:b d=some (.list (C.map .ref))/\yN b C aE) (A:o<I) (H:I<=aE.length):Cl (eF PG (a+4)) (.fn 16) [.ref d,.int o,.int I] b λO _=>∃f c:Nat,f<=o/\I<=c/\c<=aE.length/\O= .tup [.int f,.int c]:=by
 have M:∀{m:MM} {s:AS},eC b s->m[0]? =some (some (.ref d))->Ev (eF PG (a+3)) m s (.call (.cst (.bi 0)) (.cons (.var 0) .nil)) (.int aE.length):=λe r=>by
  have:=jj (a:=a+2) (a5 r) (f' (e _ _ i.1))
  rwa [bb,i.2.1] at this
 have y:∀{m:MM} {s:AS} {j l:Nat},m[j]? =some (some (.int l))->0<l->Ev (eF PG (a+3)) m s (.bin .sub (.var j) (.cst (.int 1))) (.int (l -1:Nat)):=λr P Q T=>ie (a5 r) d3 rfl _ (by rw [Ku P];exact T)
 refine jQ [some (.ref d),some (.int o),some (.int I),none,none] (df _ _) rfl rfl λk' w R Y=>?_
 (injection w with w;subst w)
 refine g_ (a5 rfl) (g_ (a5 rfl) (oQ (aE.length -I) (λN m s=>eC b s/\∃c:Nat,m=[some (.ref d),some (.int o),some (.int I),some (.int o),some (.int c)]/\I<=c/\c<=aE.length/\N=aE.length -c) (wW (ee _) I rfl (eK _) H rfl) ?_))
 intro N m s V K S;refine OO V λe c p z L U=>?_;subst p;subst U
 have J:0<c:=ej (c_ (fA _) A) z
 refine iP (yN.WM i e) λh g=>?_
 refine ei (decide (c<aE.length)&&decide (SI aE c=SI aE (c -1))) (pB (yx (f_ (fW (a5 rfl) (M e rfl) (oe (decide_eq_decide.mpr ib.symm)))) λu=>f_ (fW (Jk h g rfl (a5 rfl) (of_decide_eq_true u)) (Jk h g rfl (y rfl J) (ej (kh J j_) L)) (eq_int rfl)))) (λs1 E=>⟨λx=>?_,λ_=>?_⟩)
 .have F:=of_decide_eq_true (qA.mp x).1
  exact g_ (ie (cf:=((c+1:Nat):Int)) (a5 rfl) d3 rfl) (S _ _ _ (i8 F (fJ c)) (wW (b4 e E) (c+1) rfl (f5 z) F rfl))
 .refine oQ o (λN m s=>eC b s/\m=[some (.ref d),some (.int o),some (.int I),some (.int N),some (.int c)]/\N<=o) (iD (b4 e E) rfl (eK _)) ?_
  intro f m s2 W K2 X;refine mT W λq p t=>?_;subst p
  refine iP (yN.WM i q) λh g=>?_
  have G:f<aE.length:=c_ t (ej A H)
  refine ei (decide (0<f)&&decide (SI aE (f -1)=SI aE f)) (pB (yx (f_ (fW (a5 rfl) (d3 (i:=.int (0:Nat))) (xN (decide_eq_decide.mpr ib.symm)))) λu=>f_ (fW (Jk h g rfl (y rfl (of_decide_eq_true u)) (c_ (jS _ _) G)) (Jk h g rfl (a5 rfl) G) (eq_int rfl)))) (λZ D=>⟨λx=>?_,λ_=>?_⟩)
  .have B:=of_decide_eq_true (qA.mp x).1
   exact g_ (y rfl B) (X _ _ _ (kh B j_) (iD (b4 q D) rfl (a_ (jS _ _) t)))
  .exact iS (g7 (iR (a5 rfl) (a5 rfl))) (Y _ _ _ (b4 q D) (pk f c t z L rfl))
theorem C4 (m:Ev j e b g (.ref a)) (i:b a=some (.list (dq.map dE))) (k:Ev j e b D (.int d)) (l:Ev j e b aL (.int o)):Al j e b (.t_ g D aL) (gQ b (((dq.drop d).take (o -d)).map dE)):=λQ n=>m _ (k _ (l _ (.list i IZ λc f=>n _ _ (ki f.1) (ei c rfl (by rw [<-qj,<-oX,Cb];exact (fM f).own (ee _))))))
theorem P6 (i:Al j e b g n) (h:∀v a,eC b a->n v a->∃d c,v= .tup d/\jI C (.tup d) e=some c/\2<=C.length/\js PG j ah c a ag):js PG j (.cons (.td C g) ah) e b ag:=i _ λv a k f=>by
 exact h v a k f
theorem H2 (c:Buf b p d o I q C aE) (A:ak+2<=aI) (J:aI<=aE.length) (Y:∀Q g,Buf b Q d o I q C g->sS aE g->n .none Q):eF PG (a+5) (.fn 17) [.ref d,.int ak,.int aI] p n:=by
 refine gR [some (.ref d),some (.int ak),some (.int aI),none,none,none,none] (df 2 _) rfl rfl ?_
 have L:ak<aI:=pN A
 refine ko (aw:=false) (f_ (fW (ie (a5 rfl) (a5 rfl) rfl) d3 (oe (decide_eq_false (Xz A)).symm))) (by intros;contradiction) λ_=>s_end ?_
 clear A;refine iP c.zip λW z2=>?_
 have O:(C.zip aE).length=aE.length:=by rw [OH,c.inf.1,GZ]
 have N:=c.lst
 rw [W] at N
 refine jk (jN (xF (λj:Nat×Inf=>.int j.2.cl) (a_ (List.length_take_le' _ _) ?_) (C4 (d:=ak) (o:=aI) (eP (a5 rfl) c.obj rfl) N (a5 rfl) (a5 rfl)) (λj u s1 F=>(ei [none,some (.ref j.1)] rfl ?_)) _ λv s1 F r=>?_))
 .rw [eA,O];exact a_ (jS _ _) (a_ c.len (by unfold fG;decide))
 .obtain ⟨kF,V⟩:=z2 j (vJ (qx u))
  exact jK (eP (a5 rfl) (F _ _ V) rfl) rfl
 refine jo v r λc1 o1=>?_
 obtain ⟨E,kn,kl⟩:=min_mem ((((C.zip aE).drop ak).take (aI -ak)).map λj=>j.2.cl) (λkq=>by
  have:=congrArg fk kq
  rw [bb,fT,eA,O] at this
  have:min (aI -ak) (aE.length -ak)=0:=this
  exact XA L J this)
 refine jM (a:=a+3) (.mk (.mk o1.at_ ?_))
 refine gp E (λx hx=>?_) ?_ ?_
 .refine iQ x (ck.mp hx) λj u=>?_
  exact ei _ rfl (kl _ (fF u))
 .refine eS (ck.mp kn) λj u e=>?_
  exact ck.mpr (ei j u (congrArg AV.int e))
 have c:=c.grow F
 refine P6 (gz d3 (vH (eP (a5 rfl) c.obj rfl) (a5 rfl) (a5 rfl)) (Ej (a:=a) ⟨c.lst,c.inf⟩ L J)) λv s2 R r=>?_
 refine nZ r λk w hf kD kC kx=>?_;subst kx
 refine pk _ [some (.ref d),some (.int ak),some (.int aI),none,some (.int E),some (.int k),some (.int w)] rfl rfl (eK _) ?_
 have c:=c.grow R
 refine rj (C4 (dq:=C) (dE:=.ref) (d:=k) (o:=w) (eP (a5 rfl) c.obj rfl) c.lst (a5 rfl) (a5 rfl)) λv s3 M r=>?_
 refine jo v r λc2 H=>?_
 have km:=(tH c.le M H).1
 have ku:=c.with M H
 have Z:=gZ b c2 (.list (((C.drop k).take (w -k)).map .ref))
 generalize tS b c2 _=sb at*
 refine iL (.list c2 _) ((C.drop k).take (w -k)) .ref (λn=>gJ H.at_) (λD m s=>∃g B,Buf sb s d o I q C g/\sS aE g/\m=[some (.ref d),some (.int ak),some (.int aI),B,some (.int E),some (.int k),some (.int w)]) (mU aE _ ku (.refl aE) rfl) (λ_ _ _ zf=>i_ zf λ_ _ h _=>h.le _ _ Z) ?_ ?_
 .intro D y r' m P U kz K X;refine Lu m kz λg B z G=>?_
  refine kf (e_.mp (vJ (qx (mid U)))) λi aI=>?_
  refine eS (z.inf.2 i y aI) λkB g1 g2=>?_
  exact ei _ rfl (FY (g8 d3 (iR (a5 rfl) (a5 rfl)) (yO (a:=a+1) g2 λI' s5 hs S T=>X _ _ ⟨g.set i I',_,z.upd aI hs S,G.trans (NL g1 T),rfl⟩)))
 .intro m P ky;refine Lu m ky λg B z G=>?_
  exact ei _ (ee _) (Y P g (z.base km) G)
theorem vz (j:Ev (eF PG (a+1)) e b g (.int d)) (c:Ev (eF PG (a+1)) e b D (.int o)) (h:d<=1000000) (f:o<=1000000):Ev (eF PG (a+1)) e b (.call (.cst (.bi 4)) (.cons g (.cons D .nil))) (.pZ d o 1):=xA d3 (iR j c) λQ i=>jM (ei [(d:Int),(o:Int)] rfl (.two ⟨h,f,i⟩))
theorem Ek (X:b d=some (.list (C.map .ref))) (Z:yN b C aE) (G:b o=some (.list (jw I (ak+1)))) (x:I+ak<aE.length) (N:aE.length<=10000) (hf:∀p c,I<=p->aE[p]? =some c->c.id=0):
 Cl (eF PG (a+5)) (.fn 40) [.ref d,.ref o,Kt,.int q] b λkm _=>∃kn:Int,km= .int kn:=by
 have Y:∀p,I+p<aE.length->∃r c,(C.map AV.ref)[I+p]? =some (.ref r)/\pL b r c/\c.id=0:=λp hj=>by
  have hr:I+p<C.length:=Z.1▸hj
  have e:=dj hr
  refine eS (Z.2 _ _ e) λc h1 h2=>?_
  exact mU _ c (by rw [ed,e];rfl) h2 (hf _ c (eh _ _) h1)
 refine jQ [some (.ref d),some (.ref o),some Kt,some (.int q),none,none,none,none,none,none] (df _ _) rfl rfl λk' L R hR=>?_
 (injection L with L;subst L)
 have V:∀{m:MM} {s:AS} {w:Nat} {c:Inf},eC b s->m[4]? =some (some (.ref w))->pL b w c->Ev (eF PG (a+4)) m s (.call (.cst (.fn 36)) (.cons (.var 4) .nil)) (.int (max c.cnt 1)):=λz A ⟨E,J⟩ Q g=>g8 d3 (iO (a5 A)) (zK (a:=a+1) ⟨E,z _ _ J⟩ g)
 refine jU (Y 0 (c_ (eh _ _) x)) λr0 I0 g1 P g3=>?_
 obtain ⟨d0,ky⟩:=id P
 have kl:∀{m:MM} {s:AS} {w:Nat} {c:Inf},eC b s->m[4]? =some (some (.ref w))->pL b w c->c.id=0->Ev (eF PG (a+4)) m s (.attr (.var 4) 24) (.int 0):=λz A ⟨E,J⟩ h0=>h0▸eP (a5 A) (z _ _ J) rfl
 have U:(jw I (ak+1)).length=ak+1:=by unfold jw;rw [bb,fg]
 refine g_ (fy (a5 rfl) X (fy (d:=0) (a5 rfl) G d3 (vy (fC _))) g1) (rf (g7 (vH d3 (V (ee _) rfl P) (kl (ee _) rfl P g3))) rfl (df 2 _) (oV (vz (a:=a+3) (d3 (i:=.int (1:Nat))) (jj (a:=a+3) (a5 rfl) (f' G)) (by decide) (by rw [U];exact a_ (a_ (nW (c_ (df _ _) x)) N) (by decide))) ?_))
 rw [U]
 refine iL .pZ (eR (ak+1 -1)) (λu=>.int (1+u:Nat)) (λQ g=>tw g) (λD m s=>eC b s/\∃(r4:Nat) (B F:Int) (M H:Option AV),m=[some (.ref d),some (.ref o),some Kt,some (.int q),some (.ref r4),some (.int B),some (.int F),some (.int 0),M,H]) (EO (ee _) _ _ _ _ _ rfl) (λ_ _ _ _=>trivial) ?_ ?_
 .intro D y r' m W hD ku K hK;refine EP m ku λf r4 B F M H=>?_
  refine Qq y (rq hD) λl=>?_
  have l:D.length<ak:=l
  have O:∀{m:MM} {s:AS} {e:CE} {u:Nat},eC b s->m[1]? =some (some (.ref o))->Ev (eF PG (a+4)) m s e (.int u)->u<ak+1->Ev (eF PG (a+4)) m s (.sub (.var 1) e) (.int (I+u:Nat)):=λz A he hi=>fy (a5 A) (z _ _ G) he (vy hi)
  refine ei _ rfl (ko (aw:=true) (f_ (fW (a5 rfl) d3 (eq_str (by decide)))) (λ_=>?_) (by intros;contradiction))
  refine oV (vz (a:=a+3) (d:=I+(1+D.length)) (o:=I+(1+D.length)) ?_ (O f rfl (a5 rfl) (by exact Tn (eZ 1 _) (oC l))) (by exact a_ (eB (y3 x l)) (a_ N (by decide))) (by exact a_ (eB (y3 x l)) (a_ N (by decide)))) ?_
  .exact λQ g=>ie (cf:=((I+D.length+1:Nat):Int)) (O (u:=D.length) f rfl (ie (a5 rfl) d3 (by show some (((1+D.length:Nat):Int) -1)=_;exact congrArg some VB)) (by exact jt l)) d3 rfl Q (by rw [show I+D.length+1=I+(1+D.length) by exact y5];exact g)
  refine iL .pZ [] (λu:Nat=>.int u) (λQ g=>tw (by rw [show xB (I+(1+D.length)) (I+(1+D.length))=[] by unfold xB;rw [jE];rfl];exact g)) (λ_ m s=>s=W/\m=[some (.ref d),some (.ref o),some Kt,some (.int q),some (.ref r4),some (.int B),some (.int F),some (.int 0),some (.int (1+D.length:Nat)),H]) ⟨rfl,rfl⟩ (λ_ _ _ _=>trivial) (λE y r m s e=>by rcases E with ⟨⟩<;>contradiction) ?_
  intro m s kx;refine KZ s m kx ?_
  refine jU (Y (1+D.length) (by exact y3 x l)) λry Iy q1 S q3=>?_
  exact s_end (g_ (fy (a5 rfl) (f _ _ X) (O f rfl (a5 rfl) (by exact Tn (eZ 1 _) (oC l))) q1) (rf (g7 (vH (ie (a5 rfl) (a5 rfl) rfl) (V f rfl S) (kl f rfl S q3))) rfl (df 2 _) (hK _ _ (EO f _ _ _ _ _ rfl))))
 .intro m W kq;refine EP m kq λf r4 B F M H=>?_
  have T:=f _ _ G
  rw [qb] at T
  refine ko (aw:=true) (f_ (fW (a5 rfl) d3 λQ g=>.ne (.plain (.str _ _ (by decide)) (.str _ _ (by decide)) false ⟨(by intros;contradiction),λh=>by (injection h;contradiction)⟩) g)) (λ_=>?_) (by intros;contradiction)
  refine FY (g8 d3 (oK (a5 rfl) (oK (ie (cf:=((I+ak:Nat):Int)+1) (z5 (a5 rfl) T) d3 rfl) (oK (a5 rfl) (vH (a5 rfl) (a5 rfl) (a5 rfl))))) (zL (a:=a+1) (s_end (iS (ie (a5 rfl) (a5 rfl) rfl) (hR _ _ _ f (oq _ rfl))))))
noncomputable def gD (is:List Inf) (i:Nat):Int:=((is[i]?).map Inf.g).getD 0
noncomputable def We (is:List Inf) (i:Nat):Bool:=((is[i]?).map Inf.un).getD false
noncomputable def Bv (a:Nat) (is is':List Inf):Prop:=is'.length=is.length/\∀(j:Nat) I',j≠a->is'[j]? =some I'->∃I,is[j]? =some I/\I'.g=I.g/\I'.id=I.id
theorem sS.one (h:sS aE cy) (a:Nat):Bv a aE cy:=⟨h.1,λj b _=>h.2 j b⟩
theorem Bv.set (h:Bv a aE cy) (I:Inf):Bv a aE (cy.set a I):=⟨by rw [gK];exact h.1,λj c b d=>h.2 j c b (by rwa [iM λq=>b q.symm] at d)⟩
theorem Bv.get (h:Bv a aE cy) (f:d≠a):(cy.map (·.g))[d]? =(aE.map (·.g))[d]? :=by
 rw [ed,ed]
 induction b:cy[d]? with
 |none=>
  have:=ix.mp b
  rw [h.1] at this
  rw [iC this]
 |some I=>
  refine gi (h.2 d I f b) λJ c e _=>?_
  rw [c];exact congrArg some e
noncomputable def wC {α:Type} (l:List α) (a k:Nat) (x:α):List α:=l.take a++x::l.drop (a+k+1)
theorem xS (g:a<=dq.length) (j:Nat):(wC dq a d dn)[j]? =if j<a then dq[j]? else if j=a then some dn else dq[j+d]? :=by
 have e:(dq.take a).length=a:=by rw [fT,j5 g]
 unfold wC
 by_cases b:j<a
 .rw [if_pos b,eO (by rw [e];exact b),EC b]
 .rw [if_neg b,fm (by rw [e];exact i6.mp b),e]
  by_cases c:j=a
  .rw [if_pos c,c,jE];rfl
  .rw [if_neg c]
   obtain ⟨f,rfl⟩:∃f,j=a+(f+1):=⟨j -a -1,XB b c⟩
   rw [ij,tQ,pf]
   exact congrArg (dq[·]?) XC
theorem Jl (f:h->v) (l:List h) (a k:Nat) (x:h):(wC l a k x).map f=wC (l.map f) a k (f x):=by unfold wC;rw [b_,eI,qj,oX]
theorem El (b:a+d<dq.length):(wC dq a d dn).length=dq.length -d:=by
 unfold wC
 rw [bh,ff,fT,eA];exact XD b
theorem P7 (f:dq[a]? =some dn):(wC dq a d dn).Sublist dq:=by
 unfold wC
 have e:dq=dq.take a++dn::dq.drop (a+1):=by
  obtain ⟨b,c⟩:=ey.mp f
  rw [<-c,<-fR b,G1]
 conv=>rhs;rw [e]
 refine U0 (zQ _ ?_) _
 rw [g5,<-ip]
 exact List.drop_sublist _ _
theorem R4 (x:Al j e b cY (gQ b aN)) (w:∀f,eC b f->Ev j e f g (.ref a)/\Ev j e f D (.int d)/\Ev j e f aL (.int o)) (m:b a=some (.list l)) (p:d<=o) (u:o<=l.length) (z:l.length+aN.length<=fG) (t:∀c i,eC b c->Upd c i a (.list (l.take d++aN++l.drop o))->js PG j ah e i ag):js PG j (.cons (.Lz g D aL cY) ah) e b ag:=x _ λv c h s=>by
 refine jo v s λA k=>?_
 refine mT (w c h) λr y n=>?_
 refine r _ (y _ (n _ ?_))
 exact .mk (h _ _ m) k.at_ (λq=>(by have:=k.fr;rw [<-q,m] at this;contradiction)) (gF d) (gU.mpr p) u z (t c _ h pA)
theorem H3 (a:Tv j e b g true) (h:VE PG j D e b n):VE PG j (.ite g D aL) e b n:=a _ h
theorem Gk (k:Ev j e b g af) (c:Al j e b D n) (h:∀v a,eC b a->n v a->j i [af,v] a bw):VE PG j (.call (.cst i) (.cons g (.cons D .nil))) e b bw:=k _ (c _ λv a f d=>h v a f d)
variable {bL:Nat}
theorem Kv (F:Buf b p o I ak q C aE) (hS:Oy b d o) (T:b aI=some (.list (jw bc (bL+1)))) (lj:1<=bL) (B:bc+bL<aE.length) (hf:∀j y,bc<=j->aE[j]? =some y->y.id=0) (U:∀lh lx lA kF,Buf b lh o I ak lx lA kF->kF.map (·.g)=(aE.map (·.g)).take bc++aB::(aE.map (·.g)).drop (bc+bL+1)->(∀j y,bc+1<=j->kF[j]? =some y->y.id=0)->n .none lh):eF PG (a+7) (.fn 41) [.ref d,.ref aI,.int aB] p n:=by
 refine zR hS.sc λdx gd lk v w lG=>mT lG λq1 q2 q3=>?_
 have kX:=F.le _ _ q1
 have R:=F.len
 have lK:(jw bc (bL+1)).length=bL+1:=by unfold jw;rw [bb,fg]
 have kx:∀{s q C aE},Buf b s o I ak q C aE->∀c,c<aE.length->∃r y,C[c]? =some r/\(C.map AV.ref)[c]? =some (.ref r)/\pL s r y/\aE[c]? =some y:=λ{s q C aE} F c z=>by
  refine gi (F.at_ z) λr A E h3=>?_
  exact pk r (aE[c]) A E h3 (dj z)
 refine gR [some (.ref d),some (.ref aI),some (.int aB),none,none,none,none,none,none] (df 2 _) rfl rfl (g_ (eP (a5 rfl) kX rfl) (g_ (eP (a5 rfl) F.obj rfl) ?_))
 have lu:∀{s aE c},aE[c]? =some s->gD aE c=s.g:=λ{s aE c} Q=>by unfold gD;rw [Q];rfl
 have Y:∀{X:zU} {m:MM} {s:AS} {e:CE} {c j:Nat},eC b s->m[j]? =some (some (.ref aI))->Ev X m s e (.int c)->c<bL+1->Ev X m s (.sub (.var j) e) (.int (bc+c:Nat)):=λhl hm he z=>fy (a5 hm) (hl _ _ T) he (vy z)
 have kG:∀{X:zU} {m:MM} {s:AS} {j:Nat},eC b s->m[j]? =some (some (.ref aI))->Ev X m s (.bin .add (.sub (.var j) (.neg (.cst (.int 1)))) (.cst (.int 1))) (.int (bc+bL+1:Nat)):=λhl hm=>by
  have:=hl _ _ T
  rw [qb] at this
  exact ie (cf:=((bc+bL+1:Nat):Int)) (z5 (a5 hm) this) d3 rfl
 have kq:(eR (bL+1)).length<=fG:=by rw [fg];unfold fG;exact a_ (a_ (nW (c_ (df _ _) B)) R) (by decide)
 refine jk (Gk (eP (a5 rfl) kX rfl) (tC (dq:=eR (bL+1)) (dE:=λc=>sl (bc+c)) (λc=>.int (gD aE (bc+c))) kq (a5 rfl) (F.le _ _ T) λc z s1 Z=>?_) λv s1 Z K=>?_)
 .refine nZ (kx F (bc+c) (by have:=eV.mp z;exact c_ (d7 (eY this) _) B)) λr y e1 e2 kn e4=>?_;obtain ⟨kH,e3⟩:=kn
  exact ei [none,some (.int (bc+c:Nat)),some (.ref ak)] rfl (jK (eP (fy (a5 rfl) (Z _ _ F.lst) (a5 rfl) e2) (Z _ _ e3) (by rw [lu e4];rfl)) rfl)
 refine jo v K λcg og=>?_
 have kV:=og.at_
 rw [show (eR (bL+1)).map (λc=>AV.int (gD aE (bc+c)))=((eR (bL+1)).map λc=>gD aE (bc+c)).map .int by rw [ew];rfl] at kV
 refine NM (a:=a) ((q2.le F.le).le Z) kV (by rw [bb,fg];exact fi lj) (by rw [bb];exact kq) _ λv s2 l2 K=>?_
 subst K
 have kM:=F.grow (b4 Z l2)
 refine FY (g8 d3 (vH (a5 rfl) (Y (c:=0) kM.le rfl d3 (fC bL)) (kG kM.le rfl)) (H2 (a:=a+1) kM (by show bc+0+2<=_;exact fi (d7 lj _)) (nW B) λs3 O kO kJ=>?_))
 have ku:=kJ.1
 refine jk (H3 (f_ (fW (a5 rfl) d3 (eq_str (by decide)))) ?_)
 refine ju (a5 rfl) kO.obj rfl rfl rfl gS (B7 (a:=a+3) kO λs4 kC=>?_)
 have lE:∀j y,bc<=j->O[j]? =some y->y.id=0:=λj y V hI=>by
  refine gi (kJ.2 j y hI) λJ A _ E=>?_
  rw [E];exact hf j J V A
 refine yB (gz d3 (oK (a5 rfl) (vH (a5 rfl) (a5 rfl) (a5 rfl))) (Ek (a:=a+1) kC.lst kC.inf (kC.le _ _ T) (by rw [ku];exact B) (ku▸R) lE)) λv s5 l5 K=>?_
 refine r5 v K λN=>?_
 have kD:=kC.grow l5
 have lq:bc<O.length:=by rw [ku];exact pO B
 refine nZ (kx kD bc lq) λra g S a2 kn a4=>?_;obtain ⟨da,a3⟩:=kn
 refine g_ (fy (a5 rfl) kD.lst (Y (c:=0) kD.le rfl d3 (fC bL)) a2) ?_
 refine iu (a5 rfl _ (jd (a5 rfl) a3 λs6 u6=>?_))
 have lF:=kD.upd (I':=⟨aB,g.cl,g.un,g.id,g.part,g.cnt⟩) S u6.ne ⟨da,u6.at_⟩
 refine iu (d3 _ (jd (a5 rfl) u6.at_ λs7 u7=>?_))
 have kl:=lF.upd (I':=⟨aB,g.cl,g.un,g.id,g.part,g.cnt⟩) S u7.ne ⟨da,u7.at_⟩
 rw [GJ] at kl
 have kQ:∀{s aE c},aE[c]? =some s->We aE c=s.un:=λ{s aE c} Q=>by unfold We;rw [Q];rfl
 have lr:(O.set bc ⟨aB,g.cl,g.un,g.id,g.part,g.cnt⟩).length=aE.length:=by rw [gK,ku]
 refine iu (Gj (n:=λv s=>∃u,v= .bool u/\eC s7 s) (uU (λc=>We (O.set bc ⟨aB,g.cl,g.un,g.id,g.part,g.cnt⟩) (bc+c)) (λc=>sl (bc+c)) (dq:=eR (bL+1)) (dE:=λc=>sl (bc+c)) kq (a5 rfl) (kl.le _ _ T) λc z s8 L=>?_) (λx hx=>?_) (λs8 L=>(ei _ rfl L)) _ λv s8 L K=>?_)
 .refine nZ (kx kl (bc+c) (by have:=eV.mp z;rw [lr];exact c_ (d7 (eY this) _) B)) λr y e1 e2 kn e4=>?_;obtain ⟨kH,e3⟩:=kn
  exact gp [none,some (.int (bc+c:Nat)),some (.ref ak)] rfl (tA (λn U=>eP (fy (a5 rfl) (L _ _ kl.lst) (a5 rfl) e2) (L _ _ e3) rfl _ (by rw [kQ e4] at U;exact ⟨_,.bool _,kQ e4▸U _ (ee _)⟩))) (λ_ s9 _=>jK (a5 rfl) rfl)
 .refine iQ x (ck.mp hx) λc _=>?_;exact .int _ _
 refine jo v K λu _=>?_
 have lD:=kl.grow L
 refine jd (a5 rfl) (L _ _ u7.at_) λs9 u9=>?_
 have lg:=lD.upd (I':=⟨aB,g.cl,u,g.id,g.part,g.cnt⟩) S u9.ne ⟨da,u9.at_⟩
 rw [GJ] at lg
 refine ko (aw:=true) (f_ (fW (a5 rfl) d3 (eq_str (by decide)))) (λ_=>?_) (by intros;contradiction)
 refine iu (a5 rfl _ (jd (a5 rfl) u9.at_ λlL kT=>iu (d3 _ (jd (a5 rfl) kT.at_ λlJ kY=>iu (a5 rfl _ (jd (a5 rfl) kY.at_ λlH kK=>s_end ?_))))))
 have G:=lg.upd (I':=⟨aB,g.cl,u,q+1,0,N⟩) S (λo hb=>(kK.ne o hb).trans ((kY.ne o hb).trans (kT.ne o hb))) ⟨da,kK.at_⟩
 rw [GJ] at G
 have M:Bv bc aE (O.set bc ⟨aB,g.cl,u,q+1,0,N⟩):=(kJ.one bc).set _
 have lM:(O.set bc ⟨aB,g.cl,u,q+1,0,N⟩)[bc]? =some ⟨aB,g.cl,u,q+1,0,N⟩:=GL lq
 generalize O.set bc ⟨aB,g.cl,u,q+1,0,N⟩=kN at*
 have kB:C.length=aE.length:=F.inf.1
 have lz:((eR (bL+1)).filter λc=>decide (c=0)).map (λc=>AV.ref ((C[bc+c]?).getD 0))=[.ref ra]:=by
  rewrite [uj,mL rfl,jD.mpr λc z=>?_]
  .show [AV.ref ((C[bc]?).getD 0)]=_
   rw [S];rfl
  .refine iQ c (ck.mp z) λj _=>?_
   exact λkm=>absurd (of_decide_eq_true km) (t7 j)
 have lB:xB bc (bc+bL+1)=(eR (bL+1)).map λc=>AV.int (bc+c:Nat):=by unfold xB;rw [fK,ij]
 refine R4 (a:=ak) (d:=bc) (o:=bc+bL+1) (aN:=[.ref ra]) (l:=C.map .ref) (lz▸tB (λc=>decide (c=0)) (λc=>AV.ref ((C[bc+c]?).getD 0)) (eR (bL+1)) (λc=>AV.int (bc+c:Nat)) kq (n:=λv _=>v= .pZ bc (bc+bL+1:Nat) 1) (jK (vz (a:=a+5) (Y (c:=0) G.le rfl d3 (fC bL)) (kG G.le rfl) (by exact a_ (eB (c_ (eh _ _) B)) (a_ R (by decide))) (by exact a_ (nW B) (a_ R (by decide)))) rfl) (λv kz _ e=>(ei .pZ (λ_ _=>trivial) (λn U=>by rw [e];exact tw (by rw [lB];exact U)))) λc z kz H=>?_)
  (λkz H=>(iD (eP (a5 rfl) (H _ _ G.obj) rfl) (Y (c:=0) (b4 G.le H) rfl d3 (fC bL)) (kG (b4 G.le H) rfl))) G.lst (by exact f5 (eh _ _)) (by rw [bb,kB];exact B) (by rw [bb,kB];unfold fG;exact a_ (fi R) (by decide)) λkz kP H ky=>ei _ (ee _) ?_
 .have ly:=eV.mp z
  refine nZ (kx G (bc+c) (by rw [M.1];exact c_ (d7 (eY ly) _) B)) λr y e1 e2 _ _=>?_
  have kZ:=b4 G.le H
  have hb:(decide (((bc+c:Nat):Int)=((bc+0:Nat):Int))||!true)=decide (c=0):=by
   rw [wU,Bool.or_false]
   exact decide_eq_decide.mpr ⟨λQ=>VC Q,λQ=>by rw [Q]⟩
  refine gp [none,some (.int (bc+c:Nat)),some (.ref aI),some (.ref ak)] rfl (hb▸tA (pB (MV (f_ (fW (a5 rfl) (Y (c:=0) kZ rfl d3 (fC bL)) (eq_int rfl))) λ_=>Eh (aw:=true) (a5 rfl) (a5 rfl) (kZ _ _ T) (.int _ _) (λx hx=>?_) ⟨λ_=>ck.mpr ⟨c,z,rfl⟩,λ_=>rfl⟩))) (λ_ lI lC=>jK (fy (a5 rfl) (lC _ _ (H _ _ G.lst)) (a5 rfl) (by rw [e2,e1];rfl)) rfl)
  refine iQ x (ck.mp hx) λj _=>?_
  exact .int _ _
 have D:=G.grow H
 have kU:bc+bL<C.length:=kB▸B
 have W:bc+bL<kN.length:=by rw [M.1];exact B
 have kW:(wC C bc bL ra).Sublist C:=P7 S
 refine U kP (q+1) (wC C bc bL ra) (wC kN bc bL ⟨aB,g.cl,u,q+1,0,N⟩) ⟨ky.le D.le D.fw,(ky.ne o λkm=>by have A:=D.obj;rw [km,D.lst] at A;(injection A;contradiction)).trans D.obj,?_,⟨?_,λc r z=>?_⟩,D.nd.sublist kW,D.fb,D.fw,λr hr=>D.fr r (kW.subset hr),?_⟩ ?_ λj y V hI=>?_
 .rw [ky.at_,Jl];unfold wC;rw [eE];rfl
 .rw [El kU,El W,kB,M.1]
 .rw [xS (eB (c_ (eh _ _) kU))] at z
  rw [xS (eB (c_ (eh _ _) W))]
  have kI:∀{r y},pL kz r y->pL kP r y:=λ{r y} ⟨kH,hd⟩=>⟨kH,(ky.ne r λkm=>by rw [km,D.lst] at hd;(injection hd;contradiction)).trans hd⟩
  by_cases A:c<bc
  .rw [if_pos A] at z⊢
   refine eS (D.inf.2 c r z) λy g1 g2=>?_
   exact ei y g1 (kI g2)
  .rw [if_neg A] at z⊢
   by_cases E:c=bc
   .rw [if_pos E] at z⊢
    (injection z with z;subst z)
    exact ei _ rfl (kI ⟨da,H _ _ kK.at_⟩)
   .rw [if_neg E] at z⊢
    refine eS (D.inf.2 (c+bL) r z) λy g1 g2=>?_
    exact ei y g1 (kI g2)
 .rw [El W,M.1];exact a_ (jS _ _) R
 .have e5:(wC kN bc bL ⟨aB,g.cl,u,q+1,0,N⟩).map (·.g)=wC (aE.map (·.g)) bc bL aB:=by
   rw [Jl]
   refine sy λj=>?_
   rw [xS (by rw [bb];exact eB (c_ (eh _ _) W)),xS (by rw [bb];exact eB (c_ (eh _ _) B))]
   by_cases A:j<bc
   .rw [if_pos A,if_pos A,M.get (rC A)]
   .rw [if_neg A,if_neg A]
    by_cases E:j=bc
    .rw [if_pos E,if_pos E]
    .rw [if_neg E,if_neg E,M.get (VD A E)]
  rw [e5];rfl
 .rw [xS (by exact eB (c_ (eh _ _) W)),if_neg (by exact Nat.not_lt_of_gt V),if_neg (by exact Nat.ne_of_lt' V)] at hI
  refine gi (M.2 (j+bL) y (by exact oD (ej V (eh _ _))) hI) λJ g1 _ g3=>?_
  rw [g3];exact hf _ J (by exact a_ (eB V) (eh _ _)) g1
theorem Kw (p:Ev j e b g af) (d:Ev j e b D b7) (q:Al j e b aL bw) (h:∀w a,eC b a->bw w a->Cl j i [af,b7,w] a n):Al j e b (.call (.cst i) (.cons g (.cons D (.cons aL .nil)))) n:=
 λQ m=>p _ (d _ (q _ λw a c f=>h w a c f Q λx l o k=>m x l (b4 c o) k))
theorem Oy.le (h:Oy b a d) (c:eC b p):Oy p a d:=zR h.sc λi k m v w l=>mT l λf g j=>Ij j λe x y n=>⟨i,k,m,v,w,c _ _ f,g.le c,e,x,y,c _ _ n⟩
variable {bV:Nat}
theorem H4 (x:Buf b p o I ak q C aE) (U:Oy b d o) (ht:b aI=some (.inst 5 bL [(54,.ref bc)])) (hE:k4 b bc aK) (hT:vq (strip aK) 5) (y:bV<aE.length) (hf:∀j B,bV<=j->aE[j]? =some B->B.id=0) (hN:∀N,Buf b N o I ak q C aE->(((strip aK).lookup (gD aE bV)).getD []).find? (λr=>jv ((aE.map (·.g)).drop (bV+1)) r.1)=none->n (.int (-1)) N) (hY:∀N Y W L f,Buf b N o I ak Y W L->(((strip aK).lookup (gD aE bV)).getD []).find? (λr=>jv ((aE.map (·.g)).drop (bV+1)) r.1)=some f->L.map (·.g)=(aE.map (·.g)).take bV++f.2::(aE.map (·.g)).drop (bV+f.1.length+1)->(∀j B,bV+1<=j->L[j]? =some B->B.id=0)->n (.int (bV+1:Nat)) N):
 eF PG (a+10) (.fn 42) [.ref d,.ref aI,.int bV] p n:=by
 refine zR U.sc λkQ gd lk g kO kC=>mT kC λq1 q2 q3=>?_
 obtain ⟨ra,a1,a2,da,a3⟩:=x.at_ y
 have kD:gD aE bV=aE[bV].g:=by unfold gD;rw [dj y];rfl
 have hG:(aE.map (·.g))[bV]? =some aE[bV].g:=by rw [ed,dj y];rfl
 rw [kD] at hN hY
 refine gR [some (.ref d),some (.ref aI),some (.int bV),none,none,none,none,none] (df 2 _) rfl rfl (g_ (eP (eP (a5 rfl) (x.le _ _ q1) rfl) x.obj rfl) (g_ (i:=.int aE[bV].g) (eP (fy (a5 rfl) x.lst (a5 rfl) a2) a3 rfl) ?_))
 refine rj (CZ (hE.le x.le) (eP (a5 rfl) (x.le _ _ ht) rfl) (a5 rfl)) λg s1 l1 G=>?_
 refine jo g G λrl ky=>?_
 have kF:∀f∈((strip aK).lookup aE[bV].g).getD [],f.1.length<=3:=λf F=>by
  induction h:(strip aK).lookup aE[bV].g with
  |none=>rw [h] at F;contradiction
  |some l=>
   rw [h] at F
   exact (hT.rows (aE[bV].g,l) (by refine i_ (gV.mp h) λl1 E e _=>?_;rw [e];simp) f F).len
 generalize ((strip aK).lookup aE[bV].g).getD []=kn at*
 refine iL (.list rl _) kn ig (λn=>gJ ky) (λD m s=>eC s1 s/\(∀f∈D,jv ((aE.map (·.g)).drop (bV+1)) f.1=false)/\∃V w6 Q,m=[some (.ref d),some (.ref aI),some (.int bV),some (.ref ak),some (.int aE[bV].g),V,w6,Q]) (ve (ee _) (by intros;contradiction) _ _ _ rfl) (λ_ _ _ h=>h.1 _ _ ky) ?_ ?_
 .intro D f r' m X hD kG K hK;refine vg m kG λE R V w6 Q=>?_
  have A:=x.grow (b4 l1 E)
  have kl:=kF f (mid hD)
  have kx:jv ((aE.map (·.g)).drop (bV+1)) f.1=true->kn.find? (λr=>jv ((aE.map (·.g)).drop (bV+1)) r.1)=some f:=λh=>m_.mpr (Dj h D r' hD (λT y=>by rw [R T y];rfl))
  refine ei [some (.ref d),some (.ref aI),some (.int bV),some (.ref ak),some (.int aE[bV].g),some (tI f.1),some (.int f.2),Q] rfl (ko (f_ (A3 (bT:=[]) (a5 rfl) (g7 gS))) (λu=>?_) λu=>s_end ?_)
  .have u:=of_decide_eq_true u
   obtain ⟨kP,b1,b2,db,b3⟩:=A.at_ y
   refine iu (a5 rfl _ (jd (fy (a5 rfl) A.lst (a5 rfl) b2) b3 λs3 u3=>iS (ie (cf:=((bV+1:Nat):Int)) (a5 rfl) d3 rfl) (ei _ (ee _) ?_)))
   refine hY s3 q C (aE.set bV ⟨f.2,aE[bV].cl,aE[bV].un,aE[bV].id,aE[bV].part,aE[bV].cnt⟩) f (A.upd b1 u3.ne ⟨db,u3.at_⟩) (kx (by rw [u];exact gN.mpr uu)) ?_ λj B hj hI=>?_
   .rw [u,GK,List.set_eq_take_append_cons_drop,if_pos (by rw [bb];exact y)];rfl
   .rw [iM (rC hj)] at hI
    exact hf j B (nX hj) hI
  .have u:=of_decide_eq_false u
   have kK:1<=f.1.length:=oN.mpr u
   refine yB (Kw (n:=λg s=>(f.1<+:(aE.map (·.g)).drop (bV+1)/\∃z,g= .ref z/\iT X s z (.list (jw bV (f.1.length+1))))\/(¬f.1<+:(aE.map (·.g)).drop (bV+1)/\g= .none)) (a5 rfl) (a5 rfl) (gz d3 (iO (i:=tI (aE[bV].g::f.1)) (λn H=>AR (g7 (iO (a5 rfl))) (a5 rfl) (by rw [bb];unfold fG;exact a_ (d7 kl 1) (by decide)) _ H)) (HY (a:=a+6) (by unfold fG;exact a_ (fi kl) (by decide))))
    λg s3 l3 G=>G▸uT (H0 (a:=a) (A.grow l3) U hG (a_ kl (by decide))) λg s4 _ h=>h.imp (λzf=>Tj zf λT z o kH=>(tT T z o (kH.base l3))) id) λg s4 S G=>?_
   have kz:=A.grow S
   rcases G with ⟨O,z,rfl,Z⟩ |⟨O,rfl⟩
   .have km:bV+f.1.length<aE.length:=by
     have:=O.length_le
     rw [eA,bb] at this
     exact XE y this
    refine iP (tH A.le S Z) λb0 b1=>?_
    have kJ:=A.with S Z
    have kq:=gZ b z (.list (jw bV (f.1.length+1)))
    refine pK (aw:=true&&true) (DY (aw:=true) (pB (f_ (fW (a5 rfl) d3 λn H=>.Tw (by (repeat intro _);contradiction) (by (repeat intro _);contradiction) H))) λ_ s5 M=>rQ (gz d3 (iR (a5 rfl) (a5 rfl)) (B6 (a:=a+4) (kz.grow M).lst (kz.grow M).inf (M _ _ Z.at_) km hf))) λs5 M=>⟨λ_=>?_,(by intros;contradiction)⟩
    generalize tS b z _=sb at*
    refine FY (g8 d3 (vH (a5 rfl) (a5 rfl) (a5 rfl)) (Kv (a:=a+2) (kJ.grow M) (U.le b0) kq kK km hf λs6 Y W L kB hg kI=>?_))
    have ku:=kB.le _ _ kq
    rw [qb] at ku
    exact iS (ie (cf:=((bV+1:Nat):Int)) (ie (cf:=((bV+f.1.length+1:Nat):Int)) (z5 (a5 rfl) ku) d3 rfl) (pC (a:=a+8) (a5 rfl)) (by show some (((bV+f.1.length+1:Nat):Int) - (f.1.length:Nat))=_;exact congrArg some XF)) (ei _ (ee _) (hY s6 Y W L f (kB.base b0) (kx (gN.mpr O)) hg kI))
   .refine ko (aw:=false&&false) (yx (aw:=false) (bO:=false) (f_ (fW (a5 rfl) d3 λn H=>.Tu H)) (λh=>nomatch h)) (by intros;contradiction) λ_=>hK _ _ (ve (b4 E S) (λkN J=>?_) _ _ _ rfl)
    rcases eG.mp J with J |J
    .exact R kN J
    .rw [dt.mp J,nP]
     exact λh=>O (gN.mp h)
 .intro m X kM;refine vg m kM λE R V w6 Q=>?_
  exact iS (wq (q:=1) d3) (ei _ (ee _) (hN X (x.grow (b4 l1 E)) (jh.mpr λf F h=>by rw [R f F] at h;contradiction)))
noncomputable def pa (T:Table) (s:hJ):Nat×Int:=match ((T.lookup (s.headD 0)).getD []).find? (λr=>jv (s.drop 1) r.1) with
 |some q=>(1+q.1.length,q.2)
 |none=>(1,s.headD 0)
theorem Gl (T:Table) (a:0<ay.length):(pa T ay).1<=ay.length/\0<(pa T ay).1:=by
 unfold pa
 induction h:((T.lookup (ay.headD 0)).getD []).find? (λr=>jv (ay.drop 1) r.1) with
 |none=>exact ⟨a,j_⟩
 |some q=>
  have b:=(gN.mp (BF (p:=λr:Row=>jv (ay.drop 1) r.1) h)).length_le
  rw [eA] at b
  exact ⟨by show 1+q.1.length<=_;exact n1 (eZ 1 _) (zA a b),by show 0<1+q.1.length;exact ej Qk (eh _ _)⟩
noncomputable def zt (st:AS) (b row:Nat) (rs:List Nat):AS:=λa=>if a=b\/a=row\/a∈rs then none else st a
theorem NN (h:b o=some av) (g:eC b p) (e:b a=none) (f:b d=none) (c:∀r∈C,b r=none):zt p a d C o=some av:=by
 refine (if_neg λq=>?_).trans (g _ _ h)
 rcases q with rfl |rfl |q
 .rw [e] at h;contradiction
 .rw [f] at h;contradiction
 .rw [c _ q] at h;contradiction
theorem Buf.hide (h:Buf b p a d o q C aE):Buf (zt p a o C) p a d o q C aE/\∀x c,p x=some c->(∀t,c≠.list t)->(∀g f,c≠.inst 1 g f)->(∀g f,c≠.inst 2 g f)->zt p a o C x=some c:=by
 refine ⟨⟨λx c e=>?_,h.obj,h.lst,h.inf,h.nd,if_pos (.inl rfl),if_pos (.inr (.inl rfl)),λr u=>if_pos (.inr (.inr u)),h.len⟩,λx c e l m v=>(if_neg λj=>?_).trans e⟩
 .unfold zt at e
  by_cases k:x=a\/x=o\/x∈C
  .rw [if_pos k] at e;contradiction
  .rwa [if_neg k] at e
 .rcases j with rfl |rfl |j
  .exact v _ _ (oo e h.obj)
  .exact l _ (oo e h.lst)
  .obtain ⟨i,s⟩:=e_.mp j
   obtain ⟨I,_,g,n⟩:=h.inf.2 i x s
   exact m _ _ (oo e n)
theorem NO (r:zl b d []) (h:∀g e,eC b e->Bs e g->n (.ref g) e):eF PG (a+4) (.cls 9) [.ref d,i,af] b n:=by
 refine z1 rfl λf s y n1=>gR [some (.ref f),some (.ref d),some i,some af,some .none,some .none] (df 2 _) rfl rfl ?_
 refine iu (a5 rfl _ (jd (a5 rfl) n1.at_ λx u2=>iu (a5 rfl _ (jd (a5 rfl) u2.at_ λu u3=>iu (a5 rfl _ (jd (a5 rfl) u3.at_ λz l=>iu (H3 (f_ (fW (a5 rfl) d3 λn c=>.VJ c)) (Ba λv s5 m=>jd (a5 rfl) (m.le _ _ l.at_) λw p=>iu (H3 (f_ (fW (a5 rfl) d3 λn c=>.VJ c)) (Ba λA B j=>jd (a5 rfl) (j.le _ _ p.at_) λq o=>(gp _ (ee _) rfl ?_)))))))))))
 have t:=l.le (u3.le (u2.le n1.le n1.fr) n1.fr) n1.fr
 have k:=o.le (b4 (p.le (b4 t m.le) n1.fr) j.le) n1.fr
 exact h f q k ⟨s,d,i,af,_,_,o.at_,r.le k⟩
theorem Em (h:∀g j,eC b j->Bs j g->n (.ref g) j):Cl (eF PG (a+5)) (.fn 71) [] b n:=by
 refine jQ [] (df _ _) rfl rfl λz d R w=>?_
 (injection d with d;subst d)
 refine AX (Ge (jN (Ba λp A n1=>tu (df 4 a) λc1 m q _ _=>?_)))
 have f:=fM (av:=.inst 0 m [(33,.ref p)]) q
 refine jN (Ba λv y e=>tu (df 4 a) λx r u _ _=>?_)
 have c:=fM (av:=.inst 0 r [(33,.ref v)]) u
 refine sj gS λc5 s5 i=>NO (a:=a) ⟨m,p,i.le _ _ (c.le _ _ (e.le _ _ f.at_)),i.le _ _ (c.le _ _ (e.le _ _ (f.le _ _ n1.at_)))⟩ λg k t s=>?_
 have l:eC b k:=b4 n1.le (b4 f.le (b4 e.le (b4 c.le (b4 i.le t))))
 exact w _ _ _ l (h g k l s)
theorem Ky (h:∀k e w f,eC b f->f k=some (.inst 4 e [(27,.ref d),(50,.ref o),(51,i),(52,.ref I),(36,.int 1),(53,.int 0),(32,w)])->n (.ref k) f):eF PG (a+4) (.cls 4) [.ref d,.ref o,i,.ref I,.int 1] b n:=by
 refine z1 rfl λg e z n1=>gR [some (.ref g),some (.ref d),some (.ref o),some i,some (.ref I),some (.int 1),some (.int 0)] (df 2 _) rfl rfl ?_
 refine iu (a5 rfl _ (jd (a5 rfl) n1.at_ λy u2=>iu (a5 rfl _ (jd (a5 rfl) u2.at_ λv u3=>iu (a5 rfl _ (jd (a5 rfl) u3.at_ λA m=>iu (a5 rfl _ (jd (a5 rfl) m.at_ λs5 q=>iu (a5 rfl _ (jd (a5 rfl) q.at_ λx r=>iu (a5 rfl _ (jd (a5 rfl) r.at_ λB l=>iu (sj (iO d3) λc u p=>jd (a5 rfl) (p.le _ _ l.at_) λt j=>(gp _ (ee _) rfl ?_))))))))))))))
 have s:=l.le (r.le (q.le (m.le (u3.le (u2.le n1.le n1.fr) n1.fr) n1.fr) n1.fr) n1.fr) n1.fr
 exact h g e _ t (j.le (b4 s p.le) n1.fr) j.at_
theorem Gm (c:Buf b p d o I q C aE):Cl (eF PG (a+3)) (.fn 10) [.ref d] p (gQ p ((aE.map (·.g)).map .int)):=by
 refine jQ [some (.ref d)] (df _ _) rfl rfl λu k R t=>?_
 injection k
 refine iP c.zip λn g=>?_
 have f:=c.lst
 rw [n] at f
 have r:(aE.map (·.g)).map AV.int=(C.zip aE).map λe=>.int e.2.g:=by
  rw [<-Ob (l₁:=C) (l₂:=aE) (gy c.inf.1.symm),ew,ew,Ob (gy c.inf.1.symm)];rfl
 refine si (tC (λe:Nat×Inf=>.int e.2.g) ?_ (eP (a5 rfl) c.obj rfl) f λe m x h=>(ei [none,some (.ref e.1)] rfl ?_)) λv s l i=>t _ _ _ l (r▸i)
 .rw [OH,c.inf.1,GZ];exact a_ c.len (by unfold fG;decide)
 .obtain ⟨w,j⟩:=g e m
  exact jK (eP (a5 rfl) (h _ _ j) rfl) rfl
noncomputable def Uu (g cl mk:Int):List (Nat×AV):=MT (.int g) (.int cl) (.int mk)
noncomputable def SJ (p:Nat×Int):Inf:=⟨p.2,p.1,false,0,0,0⟩
noncomputable def Gn (gs:List Int):List (Nat×Int):=gs.mapIdx λi g=>(i,g)
theorem NP {c:AV} (h:VE PG j g e b λv b=>j i [af,b7,c,v] b n):VE PG j (.call (.cst i) (.cons (.cst af) (.cons (.cst b7) (.cons (.cst c) (.cons g .nil))))) e b n:=h
theorem NQ (d:Ev j e b g af) (h:VE PG j D e b λc b=>VE PG j aL e b λa b=>VE PG j cY e b λf b=>j i [af,c,a,f,b7] b n):VE PG j (.call (.cst i) (.cons g (.cons D (.cons aL (.cons cY (.cons (.cst b7) .nil)))))) e b n:=d _ h
theorem yP (ht:b d=some (.inst 5 I [(54,.ref o)])) (hE:k4 b o aK) (hT:vq (strip aK) 5) (hg:b ak=some (.list (a8.map .int))) (hl:a8.length<=10000):
 Cl (eF PG (a+11)) (.fn 76) [.ref d,.ref ak] b (gQ b ((iK (pa (strip aK)) a8.length a8).map .int)):=by
 refine jQ [some (.ref d),some (.ref ak),none,none,none,none,none,none] (df _ _) rfl rfl λk' kF R hR=>?_
 (injection kF with kF;subst kF)
 have lD:∀{F:MM} {s:AS},eC b s->F[1]? =some (some (.ref ak))->Ev (eF PG (a+10)) F s (.call (.cst (.bi 0)) (.cons (.var 1) .nil)) (.int a8.length):=λlq hm=>by
  have:=jj (a:=a+9) (a5 hm) (f' (lq _ _ hg))
  rwa [bb] at this
 refine jk (jN (zZ (jN (lD (ee _) rfl _ (tD (a:=a+9) (a_ hl (by decide)) (tx .pZ (eR a8.length) (λlr=>.int (lr:Nat)) (λQ=>p8) (λD kx s=>eC b s/\∃f:List Nat,kx=f.map .ref/\f.length=D.length/\f.Nodup/\(∀r∈f,b r=none)/\∀(i:Nat) r,f[i]? =some r->∃g I,a8[i]? =some g/\s r=some (.inst 1 I (Uu g i 0))) ⟨(ee _),[],rfl,rfl,eH,(by intros;contradiction),(by intros;contradiction)⟩ (λ_ _ _ _=>trivial) ?_ ?_))))))
 .intro D y r' kx s hD lP K U;refine Tg kx lP λM f lV=>wY lV λS Y h3 h4=>?_
  refine Qq y (rq hD) λE=>?_
  have m6:(a8.map AV.int)[D.length]? =some (.int a8[D.length]):=by rw [ed,dj E];rfl
  refine ei [none,some (.int D.length),some (.ref ak)] rfl (Ef (g8 d3 (vH d3 (fy (a5 rfl) (M _ _ hg) (a5 rfl) m6) (a5 rfl)) (MU (df 4 _) λkD I fa fd _=>?_)))
  have na:=fM (av:=.inst 1 I (MT (.int a8[D.length]) (.int D.length) (.int 0))) fa
  refine ⟨by rw [bb,S];exact ej E (a_ hl (by unfold fG;decide)),U _ _ ⟨(b4 M na.le),(f++[kD]),(by rw [b_];rfl),(by rw [bh,bh,S];rfl),?_,?_,(λi r l=>?_)⟩⟩
  .refine eQ.mpr (iD Y (eU.mpr ⟨eg,eH⟩) (λH z y E q=>?_))
   refine kf (e_.mp z) λi l=>?_
   refine i_ (h4 i H l) λg V _ W=>?_
   rw [q,dt.mp E] at W
   exact na.ne W rfl
  .exact λH z=>(eG.mp z).elim (h3 H) λz=>by rw [dt.mp z];exact jH M fa.1
  .rcases ke i f.length with ky |ky
   .rw [eO ky] at l
    refine i_ (h4 i r l) λg V W h6=>?_
    exact nE g V W (na.le _ _ h6)
   .rw [fm ky] at l
    have h0:i -f.length=0:=i7.mp (gA l)
    rw [h0] at l
    (injection l with l;subst l)
    have lS:i=D.length:=by rw [<-S];exact iw (uq.mp h0) ky
    rw [lS]
    exact nE _ I (dj E) na.at_
 intro kx s1 s2 C lL X;obtain ⟨M,f,rfl,S,Y,h3,h4⟩:=lL
 rw [fg] at S
 refine HE (df 4 _) λA bx fb m8 _=>?_
 have O:=fM (av:=.inst 2 bx [(28,.ref C),(44,.bool false),(45,.int 0),(46,.int 0)]) fb
 generalize tS s2 A _=s3 at*
 have l3:eC b s3:=b4 M (b4 X.le O.le)
 have kV:b C=none:=jH M X.fr
 have kM:b A=none:=jH (b4 M X.le) O.fr
 refine oV (eP (a5 rfl) O.at_ rfl) (iL (.list C _) f .ref (λQ=>gJ (O.le _ _ X.at_)) (λD F s=>eC b s/\s C=some (.list (f.map .ref))/\s A=some (.inst 2 bx [(28,.ref C),(44,.bool false),(45,.int 0),(46,.int 0)])/\(∀(i:Nat) r,f[i]? =some r->∃g I,a8[i]? =some g/\s r=some (.inst 1 I (Uu g i (if i<D.length then 1 else 0))))/\∃Z,F=[some (.ref d),some (.ref ak),some (.ref A),Z,none,none,none,none])
  ⟨l3,(O.le _ _ X.at_),O.at_,(λi r l=>i_ (h4 i r l) λg I W h6=>⟨g,I,W,O.le _ _ (X.le _ _ h6)⟩),_,rfl⟩ (λ_ _ _ h=>h.2.1) ?_ ?_)
 .intro D y r' F s4 hD lN K U;refine ON F lN λl4 q1 q2 q3 Z=>?_
  have E:f[D.length]? =some y:=by rw [hD];simp
  refine i_ (q3 D.length y E) λg lG g1 J=>?_
  refine ei _ rfl (iu (d3 _ (jd (a5 rfl) J λs5 u5=>U _ _ ⟨u5.le l4 (h3 y (fj E)),(u5.ne C λq=>by have:=oo q1 (q▸J);contradiction).trans q1,(u5.ne A λq=>by have:=oo q2 (q▸J);(injection this;contradiction)).trans q2,λi r l=>?_,_,rfl⟩)))
  rw [bh,je]
  by_cases kH:i=D.length
  .rw [kH] at l⊢
   rw [E] at l;obtain rfl:=d5 l
   exact nE g lG g1 (by rw [if_pos (fJ _)];exact u5.at_)
  .refine i_ (q3 i r l) λg' V g3 g4=>?_
   refine nE g' V g3 ((u5.ne r λq=>kH (yI Y l (q▸E))).trans ?_)
   rw [g4]
   by_cases kn:i<D.length
   .rw [if_pos kn,if_pos (jt kn)]
   .rw [if_neg kn,if_neg (show ¬i<D.length+1 from λq=>(EI.mp q).elim kn kH)]
 intro F s4 m5;obtain ⟨l4,q1,q2,q3,Z,rfl⟩:=m5
 have u:Buf b s4 A bx C 0 f ((Gn a8).map SJ):=by
  have lg:((Gn a8).map SJ).length=a8.length:=by unfold Gn;rw [bb,xZ]
  refine ⟨l4,q2,q1,⟨by rw [lg,S],λi r l=>?_⟩,Y,kM,kV,h3,by rw [lg];exact hl⟩
  refine i_ (q3 i r l) λg V g1 J=>?_
  rw [if_pos (gA l)] at J
  refine ⟨SJ (i,g),?_,V,J⟩
  unfold Gn
  rw [ed,Ig,g1];rfl
 have lB:((Gn a8).map SJ).map (·.g)=a8:=by
  refine sy λj=>?_
  unfold Gn
  rw [ew,ed,Ig,Option.map_map]
  exact Option.map_id_fun'▸rfl
 have lu:∀(j:Nat) B,((Gn a8).map SJ)[j]? =some B->B.id=0:=λj B hI=>by
  refine iQ B (ck.mp (fj hI)) λp _=>?_;rfl
 generalize (Gn a8).map SJ=m3 at*
 refine jk (NP (sj (iO (a5 rfl)) λc5 s5 n5=>HA (df 4 _) λlk dy fl _ _=>?_))
 have n6:=fM (av:=.inst 3 dy [(37,Kt),(47,.int 0),(48,.int 0),(49,.ref c5)]) fl
 generalize tS s5 lk _=s6 at*
 refine jk (NQ (a5 rfl) (g8 d3 gS (Em (a:=a+5) (n:=λkJ s=>∃g,kJ= .ref g/\eC s6 s/\Bs s g) (λg s7 l7 hg=>(gp g rfl l7 hg)) _ ?_)))
 intro _ s7 l7 lT;obtain ⟨gd,rfl,_,lO⟩:=lT
 refine sj (iO (a5 rfl)) λc8 s8 n8=>a5 rfl _ (Ky (a:=a+6) λsc lJ w s9 l9 m4=>?_)
 have lM:eC s4 s9:=b4 n5.le (b4 n6.le (b4 l7 (b4 n8.le l9)))
 have kZ:=u.grow lM
 refine iP kZ.hide λlY km=>?_
 have lE:=lO.le (b4 n8.le l9)
 have lI:=b4 l7 (b4 n8.le l9) _ _ n6.at_
 have lA:∀H kl,b H=some kl->zt s9 A C f H=some kl:=λH kl kz=>NN kz kZ.le kM kV h3
 have hS:Oy (zt s9 A C f) sc A:=by
  obtain ⟨gx,cd,kD,b',c,d',g1,cx,lW,J,g3⟩:=lE
  exact ⟨lJ,gd,lk,_,w,km _ _ m4 (by (repeat intro _);contradiction) (by intros;intro h;first |contradiction |(injection h;contradiction)) (by intros;intro h;first |contradiction |(injection h;contradiction)),⟨gx,cd,kD,b',c,d',km _ _ g1 (by (repeat intro _);contradiction) (by intros;intro h;first |contradiction |(injection h;contradiction)) (by intros;intro h;first |contradiction |(injection h;contradiction)),cx,lW,km _ _ J (by (repeat intro _);contradiction) (by intros;intro h;first |contradiction |(injection h;contradiction)) (by intros;intro h;first |contradiction |(injection h;contradiction)),km _ _ g3 (by (repeat intro _);contradiction) (by (repeat intro _);contradiction) (by (repeat intro _);contradiction)⟩,dy,_,_,km _ _ lI (by (repeat intro _);contradiction) (by intros;intro h;first |contradiction |(injection h;contradiction)) (by intros;intro h;first |contradiction |(injection h;contradiction))⟩
 have kq:eC b (zt s9 A C f):=λH kl kz=>lA H kl kz
 have lF:=kq _ _ ht
 have lK:=hE.le kq
 generalize zt s9 A C f=sH at*
 have lH:∀s:List Int,0<s.length->0<(pa (strip aK) s).1:=λs hs=>(Gl (strip aK) hs).2
 refine g_ (i:=.int (0:Nat)) d3 (oQ a8.length (λN F s=>∃(ll:Int) (f:List Nat) (G:List Inf) (p:Nat) (t:List Int) (w7:Option AV),Buf sH s A bx C ll f G/\G.map (·.g)=t++a8.drop p/\(∀j B,t.length<=j->G[j]? =some B->B.id=0)/\p<=a8.length/\N=a8.length -p/\t++iK (pa (strip aK)) (a8.length -p) (a8.drop p)=iK (pa (strip aK)) a8.length a8/\
  F=[some (.ref d),some (.ref ak),some (.ref A),Z,some (.ref lk),some (.ref sc),some (.int t.length),w7])
  (uy 0 f m3 0 [] _ (ux lY lB (λj B _=>lu j B) (fA _) rfl rfl rfl)) ?_)
 intro N F s lZ K U;obtain ⟨ll,f,G,p,t,w7,u,T,hf,hp,rfl,hr,rfl⟩:=lZ
 have kW:G.length=t.length+(a8.length -p):=by
  have:=congrArg fk T
  rwa [bb,bh,eA] at this
 have kY:=jj (a:=a+9) (e:=[some (.ref d),some (.ref ak),some (.ref A),Z,some (.ref lk),some (.ref sc),some (.int t.length),w7]) (eP (g:=.var 2) (a:=28) (a5 rfl) u.obj rfl) (f' u.lst)
 rw [bb,u.inf.1] at kY
 refine ei (decide (t.length<G.length)) (pB (f_ (fW (a5 rfl) kY (oe (decide_eq_decide.mpr ib.symm))))) (λm9 lh=>⟨λz=>?_,λz=>?_⟩)
 .have z:=of_decide_eq_true z
  have L:p<a8.length:=VF kW z
  have u:=u.grow lh
  have kB:a8.drop p=a8[p]::a8.drop (p+1):=fR L
  have kK:0<(a8.drop p).length:=by rw [eA];exact i5 L
  have kT:(a8.drop p).headD 0=a8[p]:=by rw [kB];rfl
  have kC:(a8.drop p).drop 1=a8.drop (p+1):=by rw [ip]
  have kP:gD G t.length=a8[p]:=by
   unfold gD
   rw [<-ed,T,fm (eK _),jE,kB];rfl
  have kU:(G.map (·.g)).drop (t.length+1)=a8.drop (p+1):=by rw [T,<-ip,i0,kC]
  have e1:=sP _ lH kK
  have kN:∀(q:Nat×Int),pa (strip aK) (a8.drop p)=q->q.1<=a8.length -p->0<q.1->t++[q.2]++iK (pa (strip aK)) (a8.length - (p+q.1)) (a8.drop (p+q.1))=iK (pa (strip aK)) a8.length a8:=λq hq S Y=>by
   rw [eA,hq,ip,eA] at e1
   rw [eE,<-hr,e1];rfl
  have m7:(t++[(0:Int)]).length=t.length+1:=bh
  refine jk (g8 d3 (vH (a5 rfl) (a5 rfl) (a5 rfl)) (H4 (a:=a) u hS lF lK hT z hf (λkX kI kO=>?_) λkX lC lR lz q kI kQ lQ lU=>?_))
  .rw [kP,kU] at kO
   have ku:pa (strip aK) (a8.drop p)=(1,a8[p]):=by unfold pa;rw [kT,kC,kO]
   refine jk (show VT PG _ _ _ _ _ _ from f_ (fW (a5 rfl) d3 (D9 (aw:=false) rfl)) _ ?_)
   rw [if_neg gO]
   refine ie (cf:=((t.length+1:Nat):Int)) (a5 rfl) d3 rfl _ (U _ _ _ (i8 L (fJ p)) (uy ll f G (p+1) (t++[a8[p]]) (some (.int (-1))) (ux kI ?_ (λj B hj=>hf j B (by rw [bh] at hj;exact nX hj)) L rfl (kN _ ku (i5 L) j_) ?_)))
   .rw [T,kB,eE];rfl
   .rw [bh];rfl
  .rw [kP,kU] at kQ
   have ku:pa (strip aK) (a8.drop p)=(1+q.1.length,q.2):=by unfold pa;rw [kT,kC,kQ]
   have kG:=Gl (strip aK) kK
   rw [ku,eA] at kG
   have lx:p+(1+q.1.length)<=a8.length:=Ic (eB L) kG.1
   refine jk (show VT PG _ _ _ _ _ _ from f_ (fW (a5 rfl) d3 (D9 (aw:=true) (decide_eq_true (gF (t.length+1))).symm)) _ ?_)
   rw [if_pos rfl]
   refine a5 rfl _ (U _ _ _ (i8 L (gm (ej j_ (eh _ _)))) (uy lC lR lz (p+(1+q.1.length)) (t++[q.2]) (some (.int (t.length+1:Nat))) (ux kI ?_ (λj B hj=>lU j B (by rw [bh] at hj;exact hj)) lx rfl (kN _ ku kG.1 (ej j_ (eh _ _))) ?_)))
   .rw [lQ,T,Ql,show t.length+q.1.length+1=t.length+(1+q.1.length) by exact y5,<-ip,i0,ip,eE];rfl
   .rw [bh];rfl
 .have z:=of_decide_eq_false z
  have lj:a8.length -p=0:=VH kW z
  rw [lj,show iK (pa (strip aK)) 0 (a8.drop p)=[] from rfl,eT] at hr
  have ly:a8.drop p=[]:=pI (nK lj)
  rw [ly,eT,hr] at T
  have u:=u.grow lh
  refine AX (ju (a5 rfl) u.obj rfl rfl rfl gS (Gm (a:=a+7) u _ λkJ kX lX hv=>hR _ _ _ (b4 (b4 kq u.le) lX) ?_))
  rw [T] at hv
  exact hv.mono (b4 kq u.le)
theorem R5:∀(u:hJ) {a b:hJ},u++a<u++b->a<b:=by
 intro d
 induction d with
 |nil=>
  intro _ _ h
  exact h
 |cons x u c=>
  intro a b h
  exact c ((G5.mp h).resolve_left (x6 x)).2
theorem vA (h:a7.Pairwise λa b=>a.1<b.1) (u:hJ):(gI a7 u).Pairwise λa b=>a.1<b.1:=by
 unfold gI
 refine gk.mpr ((h.filter _).imp_of_mem λ{a b} e f c=>?_)
 refine kf (gN.mp (gC.mp e).2) λx d=>?_
 refine kf (gN.mp (gC.mp f).2) λy g=>?_
 rw [<-d,<-g] at c⊢
 rw [i0,i0]
 exact R5 u c
noncomputable def xT (ws:List Row) (p:hJ):Int:=((ws.find? λr=>decide (r.1=p)).map (·.2)).getD (-1)
theorem Kz (c:(a7.map (·.1)).Nodup) (h:(ay,q)∈a7):xT a7 ay=q:=by
 refine qY (nj h) λa b f=>?_;clear h;subst f
 have:(a++(ay,q)::b).find? (λr=>decide (r.1=ay))=some (ay,q):=m_.mpr ⟨decide_eq_true rfl,a,b,rfl,λr d=>by
  rw [b_,eQ] at c
  rw [decide_eq_false λe=>c.2.2 _ (fF d) ay (.head _) e];rfl⟩
 unfold xT
 rw [this];rfl
theorem Bw (h:∀l,(ay,l)∉a7):xT a7 ay= -1:=by
 unfold xT
 rw [jh.mpr λr a q=>h r.2 (by rw [<-of_decide_eq_true q];exact a)];rfl
structure oM (W:List Row) (A:Au) (ps:List hJ) (ws:List Row):Prop where
 ok:A.Ok
 fwd:RZ A
 len:ps.length=A.steps.length
 p0:ps[0]? =some []
 nd:ps.Nodup
 step:∀(n:Nat) g (t:Nat) pn,ps[n]? =some pn->(A.step n g=some t↔ps[t]? =some (pn++[g]))
 ends:∀(n:Nat) pn,ps[n]? =some pn->A.end n=xT ws pn
 pre:∀p∈ps,p=[]\/∃r∈W,p<+:r.1
 wp:∀r∈ws,r.1∈ps
 pc:∀p g,p++[g]∈ps->p∈ps
theorem oM.grow (h:oM a7 t aM aQ) {g:Int} (o:aM[a]? =some ay) (D:∃r∈a7,ay++[g]<+:r.1):∃C k,oM a7 (t.grow a g) C aQ/\(t.grow a g).step a g=some k/\C[k]? =some (ay++[g]):=by
 have m:a<t.steps.length:=h.len▸gA o
 induction i:t.step a g with
 |some k=>
  refine mU aM k (by unfold x7;rw [i];exact h) (by unfold x7;rw [i];exact i) ((h.step a g k ay o).mp i)
 |none=>
  have v:ay++[g]∉aM:=λq=>by
   obtain ⟨k,N⟩:=e_.mp q
   rw [(h.step a g k ay o).mpr N] at i;contradiction
  have E:(t.grow a g).steps.length=t.steps.length+1:=by rw [p9,i];rfl
  have G:(aM++[ay++[g]])[t.steps.length]? =some (ay++[g]):=by rw [<-h.len];exact jC
  have z:=vt (q:=g) m
  rw [i] at z
  have F:∀n x,(t.grow a g).step n x=if n=a/\x=g then some t.steps.length else t.step n x:=λn x=>by
   unfold Vt
   rw [mX m i]
   by_cases j:n=a
   .rw [if_pos j,A' i]
    by_cases w:x=g
    .rw [if_pos w,if_pos ⟨j,w⟩]
    .rw [if_neg w,if_neg λq=>w q.2,j]
   .rw [if_neg j,if_neg λq=>j q.1]
  have u:∀{n:Nat} {p:hJ},(aM++[ay++[g]])[n]? =some p->aM[n]? =some p\/(n=t.steps.length/\p=ay++[g]):=λ{n p} c=>by
   rcases ke n aM.length with f |f
   .rw [eO f] at c;exact .inl c
   .rw [fm f] at c
    have H:n -aM.length=0:=i7.mp (gA c)
    rw [H] at c
    exact .inr ⟨by rw [<-h.len];exact iw (uq.mp H) f,(d5 c).symm⟩
  refine mU (aM++[ay++[g]]) t.steps.length ⟨h.ok.grow m g,λn p c=>?_,by rw [bh,E,h.len];rfl,by rw [eO (gA h.p0)];exact h.p0,?_,λn x k B j=>?_,λn B j=>?_,?_,λr I=>fS _ (h.wp r I),λp x c=>?_⟩ z G
  .rw [mX m i] at c
   split at c
   .rename_i s
    rcases eG.mp c with c |c
    .rw [s];exact h.fwd a p c
    .rw [dt.mp c,s];exact m
   .exact h.fwd n p c
  .exact eQ.mpr (iD h.nd (eU.mpr ⟨eg,eH⟩) (λQ O b L q=>v (by rw [<-dt.mp L,<-q];exact O)))
  .rw [F]
   rcases u j with d |⟨d,y⟩
   .have M:n<t.steps.length:=h.len▸gA d
    clear D m i E z F j M;by_cases A:n=a/\x=g
    .obtain ⟨rfl,rfl⟩:=A
     rw [if_pos ⟨rfl,rfl⟩]
     rw [o] at d
     obtain rfl:=d5 d
     constructor
     .intro e;obtain rfl:=d5 e;exact G
     .intro e
      rcases u e with e |⟨e,_⟩
      .exact absurd (fj e) v
      .rw [e]
    .rw [if_neg A,h.step n x k B d]
     constructor
     .intro e;rw [eO (gA e)];exact e
     .intro e
      rcases u e with e |⟨_,e⟩
      .exact e
      .have f:=Og e rfl
       have s:n=a:=iX (gA d) h.nd|>.mp (by rw [d,o,f.1])
       exact absurd ⟨s,EJ f.2⟩ A
   .have s:n≠a:=λq=>jm a (by rw [<-q] at m⊢;exact d▸m)
    rw [if_neg λq=>s q.1]
    have J:t.step n x=none:=by
     unfold Vt
     rw [yH (by rw [d];exact jm _)];rfl
    rw [J]
    constructor
    .intro e;contradiction
    .intro e
     rw [y] at e
     rcases u e with e |⟨_,e⟩
     .exact absurd (h.pc _ _ (fj e)) v
     .have:=congrArg fk e
      rw [bh] at this
      exact absurd this (oD (fJ _))
  .have P:(t.grow a g).end n=if n=t.steps.length then -1 else t.end n:=by
    unfold x7 Au.end;rw [i]
    show (t.ends++[-1]).getD n (-1)=_
    rw [ec,ec]
    rcases ke n t.ends.length with f |f
    .rw [eO f,if_neg (by rw [<-h.ok.len];exact rC f)]
    .rw [fm f,iC f]
     rcases n -t.ends.length with ⟨⟩<;>(split<;>rfl)
   rw [P]
   rcases u j with d |⟨d,y⟩
   .rw [if_neg (rC (h.len▸gA d))];exact h.ends n B d
   .rw [if_pos d,y]
    exact (Bw λl K=>v (h.wp _ K)).symm
  .intro p c
   rcases eG.mp c with c |c
   .exact h.pre p c
   .rw [dt.mp c];exact .inr D
  .rcases eG.mp c with c |c
   .exact fS _ (h.pc p x c)
   .rw [(Og (dt.mp c) rfl).1]
    exact fS _ (fj o)
theorem En (c:a7.Pairwise λa b=>a.1<b.1):(a7.map (·.1)).Nodup:=gk.mpr (mO (S:=λa b:Row=>a.1≠b.1) (λ{a b} h q=>oj b.1 (by rw [q] at h;exact h)) c)
theorem oM.go:∀(w u:hJ) {A:Au} {ps:List hJ} {k:Nat},oM a7 A ps aQ->ps[k]? =some u->(∃r∈a7,r.1=u++w)->∃c,oM a7 (jL A k w).1 c aQ/\c[(jL A k w).2]? =some (u++w)
 |[],u,A,ps,k,h,b,_=>ei ps h (by rw [eT];exact b)
 |a::w,u,A,ps,k,h,b,⟨r,j,e⟩=>by
  refine jU (h.grow (g:=a) b (ei r j (by rw [e];exact (oq w (by rw [eE];rfl))))) λc t m f p=>?_
  have i:((A.grow k a).step k a).getD 0=t:=by rw [f];rfl
  have l:u++[a]++w=u++a::w:=by rw [eE];rfl
  clear h b f;refine eS (oM.go w (u++[a]) m p (ei r j (by rw [l];exact e))) λd n o=>?_
  refine ei d ?_ ?_
  .show oM a7 (jL (A.grow k a) (((A.grow k a).step k a).getD 0) w).1 d aQ
   rw [i];exact n
  .show d[(jL (A.grow k a) (((A.grow k a).step k a).getD 0) w).2]? =_
   rw [i,<-l];exact o
theorem KA (h:∀q∈a7,q.1≠bj.1):xT (a7++[bj]) ay=if ay=bj.1 then bj.2 else xT a7 ay:=by
 unfold xT
 rw [List.find?_append]
 by_cases a:ay=bj.1
 .rw [if_pos a,jh.mpr λq b e=>h q b (by rw [of_decide_eq_true e];exact a)]
  rw [GN (p:=λq:Row=>decide (q.1=ay)) (decide_eq_true a.symm)];rfl
 .rw [if_neg a]
  have:([bj].find? λq=>decide (q.1=ay))=none:=jh.mpr λq b e=>a (by rw [<-of_decide_eq_true e,dt.mp b])
  rw [this,Option.or_none]
theorem oM.add (h:oM a7 t aM aQ) (i:bj∈a7) (g:∀q∈aQ,q.1≠bj.1):∃d,oM a7 (t.add bj.1 bj.2) d (aQ++[bj]):=by
 refine eS (oM.go bj.1 [] h h.p0 (ei bj i rfl)) λd a b=>?_
 have b:d[(jL t 0 bj.1).2]? =some bj.1:=b
 refine oq d ⟨h.ok.add _ _,a.fwd,a.len,a.p0,a.nd,a.step,λn j f=>?_,a.pre,λq c=>?_,a.pc⟩
 .rw [KA g]
  show ((jL t 0 bj.1).1.ends.set (jL t 0 bj.1).2 bj.2).getD n (-1)=_
  rw [ec,nN]
  by_cases e:(jL t 0 bj.1).2=n
  .rw [if_pos e,if_pos (by rw [a.ok.len,<-a.len];exact gA b)]
   rw [e,f] at b
   rw [if_pos (d5 b)];rfl
  .rw [if_neg e,<-ec]
   rw [if_neg λq=>e ((iX (gA b) a.nd).mp (by rw [b,f,q]))]
   exact a.ends n j f
 .rcases eG.mp c with c |c
  .exact a.wp q c
  .rw [dt.mp c];exact fj b
theorem NR:∀(a:List Row) {A:Au} {ps:List hJ} {b:List Row},oM a7 A ps b->(∀r∈a,r∈a7)->((b++a).map (·.1)).Nodup->∃f,oM a7 (jq A a) f (b++a):=by
 intro m
 induction m with
 |nil=>
  intro A ps b h _ _
  exact ⟨ps,by rw [eT];exact h⟩
 |cons r a k=>
  intro A ps b h g d
  obtain ⟨f,j⟩:=h.add (g r (.head _)) λq c e=>by
   rw [b_,eQ] at d
   exact d.2.2 _ (fF c) r.1 (.head _) e
  have e:b++[r]++a=b++r::a:=by rw [eE];rfl
  obtain ⟨l,i⟩:=k j (λq c=>g q (.tail _ c)) (by rw [e];exact d)
  exact ⟨l,e▸i⟩
theorem Uv:oM a7 A_ [[]] [] where
 ok:=HO
 fwd n p c:=by
  have:=wy c
  have b:n=0:=i7.mp this.1
  subst b;contradiction
 len:=rfl
 p0:=rfl
 nd:=eU.mpr ⟨eg,eH⟩
 step n g t f a:=by
  have b:n=0:=i7.mp (gA a)
  subst b
  (injection a with a;subst a)
  exact ⟨λe=>(by contradiction),λe=>by
   have d:t=0:=i7.mp (gA e)
   subst d;(injection e;contradiction)⟩
 ends n f a:=by
  have b:n=0:=i7.mp (gA a)
  subst b;rfl
 pre p c:=.inl (dt.mp c)
 wp:=(by intros;contradiction)
 pc p g c:=by
  have:=congrArg fk (dt.mp c)
  rw [bh] at this;contradiction
theorem oM.begin (h:oM a7 t aM aQ) (p:hJ):∀(q:hJ),p++q∈aM->p∈aM:=by
 intro q
 induction q using snoc_ind with
 |h0=>intro a;rwa [eT] at a
 |h1 q g b=>intro a;rw [<-eE] at a;exact b (h.pc _ _ a)
theorem oM.x8 (h:oM a7 t aM aQ) (o:a7.Perm aQ) (q:a7.Pairwise λz b=>z.1<b.1) (u:∀r∈a7,10<=r.2):tX t (λn=>gI a7 (aM.getD n [])):=by
 have I:=En q
 have C:(aQ.map (·.1)).Nodup:=(o.map _).nodup I
 have w:∀n,n<t.steps.length->∃c,aM[n]? =some c/\aM.getD n []=c:=λn f=>by
  have D:n<aM.length:=h.len▸f
  have e:=dj D
  exact ei _ e (by rw [ec,e];rfl)
 have v:∀p,∀r∈gI a7 p,10<=r.2:=λp r d=>u (p++r.1,r.2) (mY.mp d)
 have E:∀p,sN (gI a7 p)=xT aQ p:=λp=>by
  by_cases i:∃l,(p,l)∈aQ
  .refine kf i λl i=>?_
   rw [Kz C i]
   have:([],l)∈gI a7 p:=mY.mpr (by rw [eT];exact o.mem_iff.mpr i)
   exact ((sQ (vA q p) (v p)).mp this).1.symm
  .rw [Bw λl u=>i (oq l u)]
   refine gj λB=>i (oq (sN (gI a7 p)) (o.mem_iff.mp ?_))
   have:=mY.mp ((sQ (vA q p) (v p)).mpr ⟨rfl,B⟩)
   rwa [eT] at this
 refine ⟨h.ok,λn f=>?_,λn g k f y=>?_,λn g f y=>?_,λn _=>vA q _,λn _=>v _⟩
 .refine eS (w n f) λc j m=>?_
  rw [m,E];exact h.ends n c j
 .refine eS (w n f) λc j m=>?_
  have s:=(h.step n g k c j).mp y
  have A:aM.getD k []=c++[g]:=by rw [ec,s];rfl
  show gI a7 (aM.getD k [])=after (gI a7 (aM.getD n [])) g/\after (gI a7 (aM.getD n [])) g≠[]
  rw [A,m]
  unfold after
  rw [tG]
  refine ⟨rfl,?_⟩
  rcases h.pre _ (fj s) with H |⟨r,d,G⟩
  .have:=congrArg fk H
   rw [bh] at this;contradiction
  .refine kf G λx F=>?_
   exact rI (a:=(x,r.2)) (mY.mpr (by show (c++[g]++x,r.2)∈a7;rw [F];exact d))
 .refine eS (w n f) λc j m=>?_
  show after (gI a7 (aM.getD n [])) g=[]
  rw [m]
  unfold after
  rw [tG]
  refine zP.mpr λr d=>?_
  have d:=mY.mp d
  have J:=h.wp _ (o.mem_iff.mp d)
  refine kf (e_.mp (h.begin _ _ J)) λk s=>?_
  rw [(h.step n g k c j).mpr s] at y
  contradiction
theorem oM.Tp (h:oM a7 t aM aQ) (f:∀r∈a7,D3 r.1):R1 t:=λi g b=>by
 refine iQ g (ck.mp b) λp a=>?_
 have d:=(wy a).1
 have m:i<aM.length:=h.len▸d
 have e:=dj m
 have n:t.step i p.1=some p.2:=vu (h.ok.rR i) a
 have c:=(h.step i p.1 p.2 _ e).mp n
 rcases h.pre _ (fj c) with k |⟨r,l,j⟩
 .have:=congrArg fk k
  rw [bh] at this;contradiction
 .exact f r l p.1 (j.subset (fU _ (.head _)))
theorem Gp (c:a7.Perm aQ) (d:a7.Pairwise λa b=>a.1<b.1) (g:∀r∈a7,10<=r.2) (e:∀r∈a7,D3 r.1):∃L,tX (jq A_ aQ) L/\L 0=a7/\RZ (jq A_ aQ)/\R1 (jq A_ aQ):=by
 have i:=En d
 obtain ⟨ps,h⟩:=NR (a7:=a7) aQ Uv (λr f=>c.mem_iff.mpr f) ((c.map _).nodup i)
 refine qW _ (h.x8 c d g) ?_ h.fwd (h.Tp e)
 show gI a7 (ps.getD 0 [])=a7
 rw [ec,h.p0];exact tF a7
noncomputable def C5 (R:List Row) (spot:Nat) (b:Nat×Int):List Int->Nat×Int
 |[]=>b
 |g::s=>if after R g=[] then b else C5 (after R g) (spot+1) (if sN (after R g)= -1 then b else (spot+1,sN (after R g))) s
theorem NS (G:tX t ar):∀(s:List Int) (k c:Nat) (b:Nat×Int),k<t.steps.length->iH t k c b s=C5 (ar k) c b s:=by
 intro l
 induction l with
 |nil=>
  intro _ _ _ _
  exact rfl
 |cons g s j=>
  intro k c b f
  show _=if after (ar k) g=[] then b else _
  induction a:t.step k g with
  |none=>rw [nV a,if_pos (G.stop k g f a)]
  |some d=>
   have e:=oh G.ok a
   refine iP (G.step k g d f a) λh i=>?_
   rw [o_ a,if_neg i,j d (c+1) _ e,G.fin d e,h]
structure B8 (R:List Row):Prop where
 CV:R.Pairwise λa b=>a.1<b.1
 HJ:∀r∈R,10<=r.2
theorem B8.after (h:B8 a7) (u:hJ):B8 (gI a7 u):=⟨vA h.CV u,λr a=>h.HJ (u++r.1,r.2) (mY.mp a)⟩
theorem B8.uniq (h:B8 a7) (l:bj∈a7) (g:cO∈a7) (e:bj.1=cO.1):bj=cO:=by
 have k:=En h.CV
 obtain ⟨i,a⟩:=e_.mp l
 obtain ⟨j,c⟩:=e_.mp g
 have b:(a7.map (·.1))[i]? =some bj.1:=by rw [ed,a];rfl
 have d:(a7.map (·.1))[j]? =some cO.1:=by rw [ed,c];rfl
 have f:i=j:=(iX (gA b) k).mp (by rw [b,d,e])
 rw [f,c] at a
 exact (d5 a).symm
theorem KC:∀(s:List Int) {R:List Row} (a:Nat) (b:Nat×Int),B8 R->
 (∃r∈R,r.1≠[]/\r.1<+:s/\(∀q∈R,q.1<+:s->q.1.length<=r.1.length)/\C5 R a b s=(a+r.1.length,r.2))\/((∀r∈R,r.1<+:s->r.1=[])/\C5 R a b s=b):=by
 intro E
 induction E with
 |nil=>
  intro R a b _
  exact .inr ⟨λr _ h=>List.prefix_nil.mp h,rfl⟩
 |cons g s A=>
  intro R a b h
  have n:∀r∈R,r.1<+:g::s->r.1=[]\/∃w,r.1=g::w/\w<+:s/\(w,r.2)∈after R g:=λr i f=>by
   induction d:r.1 using el with
   |nil=>exact .inl rfl
   |cons x w=>
    rw [d] at f
    refine iP (jT.mp f) λe B=>?_
    clear A h f;subst e
    exact .inr (gp w rfl B (jX.mpr (by rw [<-d];exact i)))
  by_cases y:after R g=[]
  .refine .inr ⟨λr i f=>(n r i f).elim id λt=>?_,if_pos y⟩
   refine gi t λw _ _ c=>?_
   rw [y] at c;exact (eg c).elim
  .have m:=h.after [g]
   have z:C5 R a b (g::s)=C5 (after R g) (a+1) (if sN (after R g)= -1 then b else (a+1,sN (after R g))) s:=if_neg y
   rcases A (a+1) (if sN (after R g)= -1 then b else (a+1,sN (after R g))) m with ⟨r,i,p,j,F,D⟩ |⟨p,j⟩
   .refine .inl ⟨(g::r.1,r.2),(jX.mp i),(oy _ _),(jT.mpr ⟨rfl,j⟩),(λq u o=>?_),?_⟩
    .rcases n q u o with e |⟨w,e,d,c⟩
     .rw [e];exact fA _
     .rw [e];exact fi (F _ c d)
    .rw [z]
     refine D.trans ?_
     show (a+1+r.1.length,r.2)=(a+(r.1.length+1),r.2)
     rw [fK,eZ 1]
   .by_cases k:sN (after R g)= -1
    .refine .inr ⟨λr i f=>(n r i f).elim id λt=>?_,by rw [z,if_pos k];rw [if_pos k] at j;exact j⟩
     refine gi t λw e d c=>?_
     have v:w=[]:=p _ c d
     subst v
     exact absurd k ((sQ m.CV m.HJ).mp c).2
    .have c:=(sQ m.CV m.HJ (q:=sN (after R g))).mpr ⟨rfl,k⟩
     refine .inl ⟨([g],sN (after R g)),(jX.mp c),(oy _ _),(jT.mpr ⟨rfl,uu⟩),(λq u o=>?_),(by rw [z,if_neg k];rw [if_neg k] at j;exact j)⟩
     rcases n q u o with e |⟨w,e,d,C⟩
     .rw [e];exact fA _
     .have v:w=[]:=p _ C d
      rw [e,v];exact eK _
theorem H5:∀(d f:List Row),f ⊆ kA f d:=by
 intro c
 induction c with
 |nil=>
  intro _
  exact λ_ h=>h
 |cons x d b=>
  intro f
  exact λq a=>b _ (by
  split
  .exact a
  .exact fS _ a)
theorem H6:∀(d f:List Row) {q:Row},q∈kA f d->q∈f\/(q∈d/\∀p∈f,jv q.1 p.1=false):=by
 intro e
 induction e with
 |nil=>
  intro _ _ h
  exact .inl h
 |cons x d c=>
  intro f q h
  by_cases a:f.any (λq=>jv x.1 q.1)=true
  .have h:q∈kA f d:=by
    have:kA f (x::d)=kA f d:=by show kA (if _ then _ else _) d=_;rw [if_pos a]
    rwa [this] at h
   exact (c f h).imp id λh=>⟨.tail _ h.1,h.2⟩
  .have h:q∈kA (f++[x]) d:=by
    have:kA f (x::d)=kA (f++[x]) d:=by show kA (if _ then _ else _) d=_;rw [if_neg a]
    rwa [this] at h
   rcases c _ h with h |h
   .rcases eG.mp h with h |h
    .exact .inl h
    .rw [dt.mp h]
     refine .inr ⟨.head _,λp b=>?_⟩
     rw [mP,nO] at a
     exact nP.mpr (a p b)
   .exact .inr ⟨.tail _ h.1,λp b=>h.2 p (fS _ b)⟩
theorem Jm (d:List Row):((live d).map (·.1)).Nodup:=by
 induction d using snoc_ind with
 |h0=>exact eH
 |h1 d r e=>
  rw [o7]
  by_cases c:(live d).any (λq=>jv r.1 q.1)=true
  .rw [if_pos c];exact e
  .rw [if_neg c,b_]
   rw [mP,nO] at c
   refine eQ.mpr ⟨e,eU.mpr ⟨eg,eH⟩,λa g b f q=>?_⟩
   refine eS (ck.mp g) λp h i=>?_;clear e g;subst i
   have f:b=r.1:=dt.mp f
   exact c p h (gN.mpr (by rw [<-f,<-q];exact List.prefix_refl _))
theorem Bx (d:∀q∈a7,jv ay q.1=false) (k:jv ay bj.1=true):bj∈live (a7++bj::aQ)/\∀q∈live (a7++bj::aQ),jv ay q.1=true->q.1.length<=bj.1.length:=by
 have i:live (a7++bj::aQ)=kA (live (a7++[bj])) aQ:=by
  rw [show a7++bj::aQ=(a7++[bj])++aQ by rw [eE];rfl];exact FO _ _ _
 have e:=gN.mp k
 have c:∀q∈live a7,q∈a7:=λq a=>(xG a7 []).subset a
 have l:live (a7++[bj])=live a7++[bj]:=by
  rw [o7,if_neg]
  rw [mP,nO]
  exact λq a j=>by
   have:=d q (c q a)
   rw [gN.mpr ((gN.mp j).trans e)] at this
   contradiction
 rw [i,l]
 refine ⟨H5 _ _ (fU _ (.head _)),λq a b=>?_⟩
 have f:=gN.mp b
 rcases H6 _ _ a with a |⟨_,a⟩
 .rcases eG.mp a with a |a
  .rw [d q (c q a)] at b;contradiction
  .rw [dt.mp a];exact eK _
 .have g:=a bj (fU _ (.head _))
  rcases ur q.1.length bj.1.length with h |h
  .exact h
  .rw [gN.mpr (zB e f h)] at g;contradiction
theorem By (b:(aR.map (·.1)).Nodup):(q::ay,aB)∈jV aR↔(ay,aB)∈live ((aR.lookup q).getD []):=by
 have j:∀p∈aR,aR.lookup p.1=some p.2:=λp c=>by
  refine qY (nj c) λg i e=>?_
  rw [e] at b⊢
  rw [b_,eQ] at b
  refine gV.mpr (nE g i rfl (λo k=>?_))
  rw [bne_iff_ne]
  exact λd=>b.2.2 _ (fF k) p.1 (.head _) d.symm
 constructor
 .intro h
  refine eS (mK.mp h) λp c n=>?_
  refine eS (ck.mp n) λr m e=>?_
  have f:=ft (l_ e).1
  have d:r.2=aB:=(l_ e).2
  rw [<-f.1,j p c,<-f.2,<-d];exact m
 .intro h
  induction a:aR.lookup q using d_ with
  |none=>rw [a] at h;contradiction
  |some l=>
   rw [a] at h
   refine i_ (gV.mp a) λg i e _=>?_
   exact mK.mpr (ei (q,l) (by rw [e];simp) (ck.mpr ⟨(ay,aB),h,rfl⟩))
theorem SK:∀r∈jV aR,r.1≠[]:=λr a=>by
 refine eS (mK.mp a) λp _ b=>?_
 clear a;refine iQ r (ck.mp b) λq _=>?_
 exact oy _ _
theorem KD (d:(aR.map (·.1)).Nodup):((jV aR).map (·.1)).Nodup:=by
 induction aR with
 |nil=>exact eH
 |cons p aR i=>
  rw [eI,eU] at d
  show ((((live p.2).map (jR p.1))++jV aR).map (·.1)).Nodup
  rw [b_,ew]
  refine eQ.mpr (iD ?_ (i d.2) (λa g b e q=>?_))
  .have:=Cd (R:=(·≠·)) (S:=(·≠·)) (Of p.1) (λa b h q=>h (ft q).2) (Jm p.2)
   rwa [ew] at this
  .refine eS (ck.mp g) λr _ c=>?_;subst c
   refine eS (ck.mp e) λx f c=>?_;subst c
   refine eS (mK.mp f) λl k j=>?_
   clear i g f e;refine eS (ck.mp j) λy _ c=>?_;clear j;subst c
   exact d.1 ((ft q).1▸fF k)
theorem zu (i:(aR.map (·.1)).Nodup):∃W:List Row,W.Perm (jV aR)/\W.Pairwise λa b=>a.1<b.1:=by
 have d:=wJ (jV aR) λa b=>decide (a.1<=b.1)
 refine ei _ d ?_
 have e:=tN (le:=λa b:Row=>decide (a.1<=b.1)) (λa b c d e=>decide_eq_true (Q5 (of_decide_eq_true d) (of_decide_eq_true e))) (λa b=>by
  rw [j4,decide_eq_true_iff,decide_eq_true_iff];exact Q6 a.1 b.1) (jV aR)
 have g:((jV aR).mergeSort λa b=>decide (a.1<=b.1)).Pairwise λa b=>a.1≠b.1:=gk.mp ((d.map λr:Row=>r.1).symm.nodup (KD i))
 refine (vb.mpr ⟨e,g⟩).imp λ{a b} h=>?_
 have j:a.1<=b.1:=of_decide_eq_true h.1
 exact gj λf=>h.2 (Oc j (S_.mp f))
structure Jn (T:Table) (W:List Row):Prop where
 perm:W.Perm (jV T)
 CV:W.Pairwise λa b=>a.1<b.1
theorem Jn.P8 (h:Jn aR a7) (b:vq aR a):B8 a7:=⟨h.CV,λr c=>(D6 b r (h.perm.mem_iff.mp c)).2.2.1⟩
noncomputable def uZ (T:Table) (s:hJ):List Row:=(T.lookup (s.headD 0)).getD []
noncomputable def firstM (T:Table) (s:hJ):Option Row:=(uZ T s).find? λr=>jv (s.drop 1) r.1
theorem Eo (G:tX t ar) (y:ar 0=a7) (k:Jn aR a7) (j:vq aR a) (u:ay≠[]):j8 t ay=match firstM aR ay with |some q=>(1+q.1.length,q.2) |none=>(0,-1):=by
 refine Lo ay (gh u) λg ay=>?_
 unfold j8
 rw [NS G _ _ _ _ G.ok.pos,y]
 have s:=k.P8 j
 have A:∀w l,(g::w,l)∈a7↔(w,l)∈live (uZ aR (g::ay)):=λw l=>k.perm.mem_iff.trans (By j.keys)
 rcases KC (g::ay) 0 (0,-1) s with ⟨r,C,i,d,N,I⟩ |⟨i,d⟩
 .rw [I,i4]
  refine qY (gh i) λx w e=>?_
  rw [e] at d
  refine iP (jT.mp d) λM m=>?_
  clear G y k j u i I d;subst M
  have H:(w,r.2)∈live (uZ aR (x::ay)):=(A w r.2).mp (by rw [<-e];exact C)
  induction f:firstM aR (x::ay) using d_ with
  |none=>
   have:=jh.mp f (w,r.2) ((xG _ []).subset H)
   exact absurd (gN.mpr m) this
  |some q=>
   obtain ⟨c,J,o,v,z⟩:=m_.mp f
   clear f;obtain ⟨h,D⟩:=Bx (ay:=ay) (λp n=>by have:=z p n;rwa [fN] at this) c (aQ:=o)
   rw [<-v] at h D
   have F:(x::q.1,q.2)∈a7:=(A q.1 q.2).mpr h
   have K:(x::q.1)<+:x::ay:=jT.mpr ⟨rfl,gN.mp c⟩
   have E:=N _ F K
   have L:=D (w,r.2) H (gN.mpr m)
   rw [e] at E
   have B:q.1.length=w.length:=iw (gL E) L
   have O:q.1=w:=zB (gN.mp c) m (gy B)|>.eq_of_length B
   have:(x::q.1,q.2)=r:=s.uniq F C (by rw [e,O])
   rw [<-this]
   show (q.1.length+1,q.2)=(1+q.1.length,q.2)
   rw [eZ]
 .rw [d]
  clear G y k j u s d;induction f:firstM aR (g::ay) using d_ with
  |none=>rfl
  |some q=>
   obtain ⟨c,J,o,v,z⟩:=m_.mp f
   clear f;obtain ⟨h,_⟩:=Bx (ay:=ay) (λp n=>by have:=z p n;rwa [fN] at this) c (aQ:=o)
   rw [<-v] at h
   exact absurd (i _ ((A q.1 q.2).mpr h) (jT.mpr ⟨rfl,gN.mp c⟩)) (oy _ _)
theorem yQ (d:vq aR a) (h:firstM aR ay=some bj):bj.2≠-1:=by
 have b:=so h
 unfold uZ at b
 induction c:aR.lookup (ay.headD 0) using d_ with
 |none=>rw [c] at b;contradiction
 |some f=>
  rw [c] at b
  refine i_ (gV.mp c) λg i e _=>?_
  have:=(d.rows (ay.headD 0,f) (by rw [e];simp) bj b).HJ
  exact λbj=>by rw [bj] at this;exact absurd this (by decide)
theorem Gq (T:Table) (s:hJ):pa T s=match firstM T s with |some q=>(1+q.1.length,q.2) |none=>(1,s.headD 0):=by
 unfold pa firstM uZ
 cases ((T.lookup (s.headD 0)).getD []).find? (λr=>jv (s.drop 1) r.1)<;>rfl
theorem Gr (w:hJ) (b:Nat×Int):∀a:List Row,a.reverse.foldl (yM w) b=match a.find? (λr=>jv w r.1) with |some q=>(1+q.1.length,q.2) |none=>b:=by
 intro d
 induction d with
 |nil=>
  exact rfl
 |cons r a c=>
  rw [nM,iY,c]
  show yM w _ r=_
  unfold yM
  by_cases h:w.take r.1.length=r.1
  .rw [if_pos h,GN (p:=λr:Row=>jv w r.1) (decide_eq_true h)]
  .rw [if_neg h,GO (p:=λr:Row=>jv w r.1) (by unfold jv;rw [decide_eq_false h];exact gO)]
theorem yR (s:hJ) (b:Nat×Int) (T:Table):wB s b T=match firstM T s with |some q=>(1+q.1.length,q.2) |none=>b:=Gr _ _ _
theorem u_ (T:Table) (s:hJ):i9 [T] s=pa T s:=by
 rw [Gq];exact yR _ _ _
theorem Jo (G:tX t ar) (d:ar 0=a7) (e:Jn aR a7) (b:vq aR a) (c:ay≠[]):fZ [t] ay=pa aR ay:=by
 rw [qP,Gq,Eo G d e b c]
 induction h:firstM aR ay with
 |none=>exact if_pos rfl
 |some q=>exact if_neg (yQ b h)
variable {bW:Au}
theorem NT {f:Nat->List Row} {b:Table} (G:tX t ar) (m:ar 0=a7) (n:Jn aR a7) (e:vq aR a) (i:tX bW f) (p:f 0=aQ) (l:Jn b aQ) (d:vq b a) (c:ay≠[]):fZ [t,bW] ay=i9 [aR,b] ay:=by
 have j:i9 [aR,b] ay=wB ay (wB ay (1,ay.headD 0) b) aR:=rfl
 have o:fZ [t,bW] ay=if (oU [bW] ay (j8 t ay)).2= -1 then (1,ay.headD 0) else oU [bW] ay (j8 t ay):=rfl
 have g:oU [bW] ay (j8 t ay)=if (j8 t ay).2= -1 then j8 bW ay else j8 t ay:=rfl
 rw [j,o,g,yR,yR,Eo G m n e c,Eo i p l d c]
 induction h:firstM aR ay using d_ with
 |none=>
  induction k:firstM b ay using d_ with
  |none=>rfl
  |some q=>exact if_neg (yQ d k)
 |some q=>
  have:=yQ e h
  simp only [if_neg this]
theorem rr {f g:List Int->Nat×Int} (h:∀s,s≠[]->f s=g s):∀(n:Nat) (s:List Int),iK f n s=iK g n s
 |0,_=>rfl
 |_+1,[]=>rfl
 |n+1,x::s=>by
  show (f (x::s)).2::iK f n _=(g (x::s)).2::iK g n _
  rw [h _ (oy _ _),rr h n]
theorem Gs:∀(h:List Int) (k e:Nat) (b:Nat×Int) (m:List Int),jJ t k h=false->iH t k e b (h++m)=iH t k e b h:=by
 intro j
 induction j with
 |nil=>
  intro k e b m c
  induction m using el with
  |nil=>rfl
  |cons g m=>
   have f:t.at k=[]:=by
    have:(!(t.at k).isEmpty)=false:=c
    rw [jP] at this
    exact qe.mp this
   have:t.step k g=none:=by unfold Vt;rw [f];rfl
   exact nV this
 |cons g h i=>
  intro k e b m c
  induction a:t.step k g using d_ with
  |none=>rw [iN,nV a,nV a]
  |some d=>
   have c:jJ t d h=false:=by
    have:(match t.step k g with |none=>false |some d=>jJ t d h)=false:=c
    rwa [a] at this
   rw [iN,o_ a,o_ a,i d _ _ m c]
theorem KG (m:List Int) (b:0<a8.length) (a:jJ t 0 a8=false):fZ [t] (a8++m)=fZ [t] a8:=by
 rw [qP,qP]
 have:j8 t (a8++m)=j8 t a8:=Gs a8 0 0 (0,-1) m a
 rw [this]
 clear a;induction a8 using el with
 |nil=>contradiction
 |cons g a8=>rfl
theorem Gu:∀(f:Nat) (h m:List Int),h.length<=f->iK (fZ [t]) (h++m).length (h++m)=(jB t h.length h).1++iK (fZ [t]) ((jB t h.length h).2++m).length ((jB t h.length h).2++m)
 |0,[],m,_=>rfl
 |f+1,[],m,_=>rfl
 |f+1,g::h,m,d=>by
  have a:0<(g::h).length:=fC _
  rw [vw a]
  induction i:jJ t 0 (g::h) using j7 with
  |true=>rfl
  |false=>
   have b:=rd [t] a
   have c:0<((g::h)++m).length:=by rw [bh];exact ej a (eh _ _)
   rw [sP _ (qa t) c,KG m a i,List.drop_append_of_le_length b.1]
   have e:((g::h).drop (fZ [t] (g::h)).1).length<=f:=by rw [eA];exact eY (ej (kh a b.2) d)
   rw [Gu f _ m e];rfl
theorem C6:∀(f:Nat) (h:List Int),h.length<=f->(jB t h.length h).2=[]\/jJ t 0 (jB t h.length h).2=true
 |0,[],_=>.inl rfl
 |f+1,[],_=>.inl rfl
 |f+1,g::h,d=>by
  have a:0<(g::h).length:=fC _
  rw [vw a]
  induction b:jJ t 0 (g::h) using j7 with
  |true=>exact .inr b
  |false=>
   have c:=rd [t] a
   exact C6 f _ (by rw [eA];exact eY (ej (kh a c.2) d))
theorem C7 (d:List Int) (g:Int):k7 t (d++[g])=((k7 t d).1++(jB t ((k7 t d).2++[g]).length ((k7 t d).2++[g])).1,(jB t ((k7 t d).2++[g]).length ((k7 t d).2++[g])).2):=by
 rw [vx,show ((k7 t d).2++[g]).length=(k7 t d).2.length+1 from bh]
theorem P9 (d:List Int):∀m,iK (fZ [t]) (d++m).length (d++m)=(k7 t d).1++iK (fZ [t]) ((k7 t d).2++m).length ((k7 t d).2++m):=by
 induction d using snoc_ind with
 |h0=>exact λ_=>rfl
 |h1 d g a=>
  intro m
  rw [eE,a ([g]++m),C7,<-eE,Gu _ _ m (eK _),eE]
theorem P_ (a:List Int):(k7 t a).1++iK (fZ [t]) (k7 t a).2.length (k7 t a).2=iK (fZ [t]) a.length a:=by
 have:=P9 (t:=t) a []
 rw [eT,eT] at this
 exact this.symm
theorem KH (G:tX t ar):∀(h:List Int) (k:Nat),k<t.steps.length->jJ t k h=true->∃r∈ar k,∃g w,r.1=h++g::w:=by
 intro m
 induction m with
 |nil=>
  intro k f a
  have:(!(t.at k).isEmpty)=true:=a
  rw [fN,<-mP,qe] at this
  refine kf (jc _ this) λp j=>?_
  have i:=(G.keys f).2 p.1 (fF j)
  refine kf (jc _ i) λr d=>?_
  exact ⟨_,(jX.mp d),p.1,r.1,rfl⟩
 |cons g h l=>
  intro k f a
  have a:(match t.step k g with |none=>false |some c=>jJ t c h)=true:=a
  induction b:t.step k g using d_ with
  |none=>rw [b] at a;contradiction
  |some c=>
   rw [b] at a
   refine Lx (l c (oh G.ok b) a) λr d x w e=>?_
   rw [(G.step k g c f b).1] at d
   exact ⟨_,(jX.mp d),x,w,(by show g::r.1=_;rw [e];rfl)⟩
theorem NU (G:tX t ar) (d:List Int):(k7 t d).2=[]\/∃r∈ar 0,(k7 t d).2.length<r.1.length/\jv r.1 (k7 t d).2=true:=by
 have c:(k7 t d).2=[]\/jJ t 0 (k7 t d).2=true:=by
  induction d using snoc_ind with
  |h0=>exact .inl rfl
  |h1 d g _=>rw [C7];exact C6 _ _ (eK _)
 refine c.imp id λb=>?_
 refine Lx (KH G _ 0 G.ok.pos b) λr a g w e=>?_
 refine gp r a ?_ (gN.mpr ⟨_,e.symm⟩)
 rw [e,bh,ff]
 exact gm (fC _)
theorem wD (c:dq.Nodup) (d:dT.Nodup) (b:∀x,x∈dq↔x∈dT):dq.length=dT.length:=
 iw (c.length_le_of_subset λx a=>(b x).mp a) (d.length_le_of_subset λx a=>(b x).mpr a)
theorem yS (c:dq.Nodup) (d:∀a∈dq,∀b∈dq,dA a=dA b->a=b):(dq.map dA).Nodup:=
 gk.mpr (yb (S:=λa b=>dA a≠dA b) (λ{a b} e f g q=>g (d a e b f q)) c)
theorem tX.reach (G:tX t ar):∀(u:hJ) (k:Nat),k<t.steps.length->gI (ar k) u≠[]->∃j,j<t.steps.length/\ar j=gI (ar k) u:=by
 intro m
 induction m with
 |nil=>
  intro k a _
  exact ei k a (tF _).symm
 |cons g u l=>
  intro k a h
  have e:gI (ar k) (g::u)=gI (after (ar k) g) u:=(tG (ar k) [g] u).symm
  rw [e] at h⊢
  have d:after (ar k) g≠[]:=λq=>by rw [q] at h;exact h rfl
  refine gi (G.qQ a d) λc _ b n=>?_
  refine eS (l c n (by rw [b];exact h)) λj f i=>?_
  exact ei j f (by rw [i,b])
theorem C8:ay∈vU a7↔ay=[]\/(ay≠[]/\gI a7 ay≠[]):=by
 unfold vU
 rw [eL,mK]
 constructor
 .rintro (h |⟨r,c,h⟩)
  .exact .inl h
  .refine iQ ay (ck.mp h) λk b=>?_
   have b:=eV.mp b
   refine .inr ⟨λq=>?_,rI (a:=(r.1.drop (k+1),r.2)) (mY.mpr (by show (r.1.take (k+1)++r.1.drop (k+1),r.2)∈a7;rw [G1];exact c))⟩
   have:=congrArg fk q
   rw [fT,qL] at this
   exact Xl b this
 .rintro (h |⟨h,d⟩)
  .exact .inl h
  .refine kf (jc _ d) λr c=>?_
   refine .inr ⟨_,mY.mp c,ck.mpr ⟨ay.length -1,eV.mpr ?_,?_⟩⟩
   .have:=oN.mpr h
    show ay.length -1<(ay++r.1).length
    rw [bh];exact ej (kh this Qk) (eh _ _)
   .show (ay++r.1).take (ay.length -1+1)=ay
    rw [pg (oN.mpr h),Ql]
structure sT (W:List Row) (B:Au) (L:Nat->List Row):Prop where
 x8:tX B L
 l0:L 0=W
 inj:∀i j,i<B.steps.length->j<B.steps.length->L i=L j->i=j
 rc:∀i,i<B.steps.length->∃u,L i=gI W u/\(u=[]\/L i≠[])
theorem sT.mem (h:sT a7 t ar) (R:List Row):R∈(eR t.steps.length).map ar↔R∈rests a7:=by
 unfold rests
 rw [xR,ck,ck]
 constructor
 .intro d;refine iQ R d λi k=>?_
  refine eS (h.rc i (eV.mp k)) λu c a=>?_
  refine ei u (C8.mpr ?_) c.symm
  rcases a with a |a
  .exact .inl a
  .by_cases b:u=[]
   .exact .inl b
   .exact .inr ⟨b,c▸a⟩
 .intro f;refine iQ R f λu b=>?_
  rcases C8.mp b with rfl |⟨_,a⟩
  .exact ei 0 (eV.mpr h.x8.ok.pos) (by rw [tF];exact h.l0)
  .refine eS (h.x8.reach u 0 h.x8.ok.pos (by rw [h.l0];exact a)) λj g e=>?_
   exact ei j (eV.mpr g) (by rw [e,h.l0])
theorem sT.size (h:sT a7 t ar):t.steps.length=(rests a7).length:=by
 have:=wD (yS List.nodup_range λa c b d=>h.inj a b (eV.mp c) (eV.mp d)) (NH _) h.mem
 rwa [bb,fg] at this
theorem Gv {a b:Option Nat} (h:FG a=FG b):a=b:=by
 induction a using d_ with
 |none=>
  induction b using d_ with
  |none=>rfl
  |some y=>have:(-1:Int)=(y:Nat):=h;exact (JD this).elim
 |some x=>
  induction b using d_ with
  |none=>have:((x:Nat):Int)= -1:=h;exact (JD this.symm).elim
  |some y=>exact congrArg some (rE h)
theorem sT.Gw (h:sT a7 t ar) (b:a<t.steps.length) (g d:Int):t.step a g=t.step a d↔after (ar a) g=after (ar a) d:=by
 constructor
 .intro e
  induction c:t.step a g using d_ with
  |none=>rw [h.x8.stop a g b c,h.x8.stop a d b (e▸c)]
  |some f=>rw [<-(h.x8.step a g f b c).1,<-(h.x8.step a d f b (e▸c)).1]
 .intro e
  induction c:t.step a g using d_ with
  |none=>
   induction i:t.step a d using d_ with
   |none=>rfl
   |some f=>exact absurd (e▸h.x8.stop a g b c) (h.x8.step a d f b i).2
  |some f=>
   induction i:t.step a d using d_ with
   |none=>exact absurd (e▸h.x8.stop a d b i) (h.x8.step a g f b c).2
   |some j=>
    have k:=(h.x8.step a g f b c).1
    have l:=(h.x8.step a d j b i).1
    rw [h.inj f j (oh h.x8.ok c) (oh h.x8.ok i) (by rw [k,l,e])]
theorem sT.Qa (h:sT a7 t ar) (g b:Int):nh t g=nh t b↔uY (rests a7) g=uY (rests a7) b:=by
 have c:nh t g=nh t b↔∀j,j<t.steps.length->after (ar j) g=after (ar j) b:=by
  unfold nh
  rw [sx]
  exact ⟨λq j a=>(h.Gw a g b).mp (Gv (q j (eV.mpr a))),λq j a=>congrArg FG ((h.Gw (eV.mp a) g b).mpr (q j (eV.mp a)))⟩
 rw [c]
 unfold uY
 rw [sx]
 constructor
 .intro q R d
  refine iQ R (ck.mp ((h.mem R).mpr d)) λj a=>?_
  exact q j (eV.mp a)
 .exact λq j a=>q _ ((h.mem _).mp (ck.mpr (ei j (eV.mpr a) rfl)))
theorem sT.sR (h:sT a7 t ar) (g:Int):nh t g=mQ t↔uY (rests a7) g=(rests a7).map λ_=>[]:=by
 have d:mQ t=(eR t.steps.length).map λ_=>(-1:Int):=by
  unfold mQ
  exact (G3.mpr ⟨by rw [bb,fg],λe i=>by refine iQ e (ck.mp i) λ_ _=>?_;rfl⟩).symm
 rw [d]
 unfold nh uY
 rw [sx,sx]
 constructor
 .intro q R k
  refine iQ R (ck.mp ((h.mem R).mpr k)) λj a=>?_
  exact h.x8.stop j g (eV.mp a) (Gv (b:=none) (q j a))
 .intro q j a
  have:=q _ ((h.mem _).mp (ck.mpr (ei j a rfl)))
  induction c:t.step j g with
  |none=>rfl
  |some f=>exact absurd this (h.x8.step j g f (eV.mp a) c).2
theorem Gx [DecidableEq v] [DecidableEq a9] {c:h->a9} (k:∀a b,dA a=dA b↔c a=c b) (l:List h):(z4 (l.map dA)).length=(z4 (l.map c)).length:=by
 induction l using snoc_ind with
 |h0=>rfl
 |h1 l x i=>
  have j:dA x∈z4 (l.map dA)↔c x∈z4 (l.map c):=by
   rw [xR,xR,ck,ck]
   exact ⟨λg=>eS g λa f e=>(ei a f ((k a x).mp e)),λg=>eS g λa f e=>(ei a f ((k a x).mpr e))⟩
  rw [b_,b_,show [x].map dA=[dA x] from rfl,show [x].map c=[c x] from rfl,pE,pE]
  by_cases d:dA x∈z4 (l.map dA)
  .rw [if_pos d,if_pos (j.mp d)];exact i
  .rw [if_neg d,if_neg λq=>d (j.mpr q),bh,bh,i];rfl
theorem sT.cols (h:sT a7 t ar) (l:yK t (sortI a8) aM aD) (s:∀d,d∈a8↔∃i,d∈(t.at i).map (·.1)) (u:D3 a8):(mQ t::aM).length=(ND (rests a7)).length:=by
 have r:ND (rests a7)=z4 ((none::[1,2,3,4,5].map some:List (Option Int)).map λx=>match x with |none=>(rests a7).map λ_=>[] |some d=>uY (rests a7) d):=rfl
 rewrite [r,<-Gx (dA:=λx:Option Int=>match x with |none=>mQ t |some d=>nh t d) (λa b=>?_)]
 .have y:∀d∈a8,nh t d∈aM:=λd k=>by
   have:d∈aD.map (·.1):=by rw [l.keys];exact ir.mpr k
   refine iQ d (ck.mp this) λp m=>?_
   refine eS (l.at_ p m) λj _ E=>?_
   exact fj E
  have w:mQ t∉aM:=λv=>by
   refine eS (l.mem _ v) λd k e=>?_
   refine kf ((s d).mp (ir.mp k)) λi n=>?_
   refine eS (ck.mp n) λp m B=>?_;clear l s u r y v k n;subst B
   have z:=(wy m).1
   have I:t.step i p.1=some p.2:=vu (h.x8.ok.rR i) m
   have o:=Nw (t:=t) (q:=p.1) z
   rw [<-e,I] at o
   have D:(mQ t)[i]? =some (-1):=by unfold mQ;rw [tO,if_pos z]
   rw [D] at o
   have:(-1:Int)=(p.2:Nat):=d5 o
   exact JD this
  refine wD (eU.mpr ⟨w,l.nd⟩) (NH _) λc=>?_
  rw [xR,ck,eL]
  constructor
  .rintro (rfl |H)
   .exact ei none (.head _) rfl
   .refine Lk c (l.mem c H) λd k=>?_
    have:=u d (ir.mp k)
    refine ei (some d) (.tail _ (ck.mpr ⟨d,?_,rfl⟩)) rfl
    simp only [eL,eg,or_false]
    (first |exact Dr this |exact Ds this)
  .intro G;refine iQ c G λx F=>?_
   clear h l u r w F;induction x using d_ with
   |none=>exact .inl rfl
   |some d=>
    by_cases k:d∈a8
    .exact .inr (y d k)
    .exact .inl (Mine.sR λi n=>k ((s d).mpr (oq i n)))
 .induction a using d_ with
  |none=>
   induction b using d_ with
   |none=>exact ⟨λ_=>rfl,λ_=>rfl⟩
   |some d=>exact ⟨λq=>((h.sR d).mp q.symm).symm,λq=>((h.sR d).mpr q.symm).symm⟩
  |some d=>
   induction b using d_ with
   |none=>exact h.sR d
   |some C=>exact h.Qa d C
theorem Br.least (G:tX t ar) (H:F4 t ar 0 aO cP) (b:Br t ar aO C aP a8) (h:aP.length=C.length):sT (ar 0) ⟨aP,a8⟩ (λj=>ar (C.getD j 0)):=by
 have d:∀{i:Nat},i<aP.length->∃x,C[i]? =some x/\C.getD i 0=x/\x∈C:=λ{i} a=>by
  have e:=dj (h▸a:i<C.length)
  exact gp _ e (by rw [ec,e];rfl) (fj e)
 refine ⟨b.x8 G (λn u=>(H.rg n (fA _) u).2) h,?_,λi j a q e=>?_,λi a=>?_⟩
 .show ar (C.getD 0 0)=_
  rw [ec,b.o0]
  exact (H.rg 0 (eK _) G.ok.pos).2.2
 .refine gi (d a) λx g c f=>?_
  refine gi (d q) λy v s o=>?_
  rw [c,s] at e
  refine mT (b.rep x f) λp r _=>?_
  refine mT (b.rep y o) λl m _=>?_
  have k:=(H.ok x y (fA _) p (fA _) l).mpr e
  rw [r,m] at k
  clear G H h d a q c f e s o p r l m;subst k
  exact (iX (gA g) b.nd).mp (g.trans v.symm)
 .refine gi (d a) λx g c f=>?_
  rw [c]
  exact (b.rep x f).2.2
theorem Br.rowAt (b:Br t ar aO C aP a8) (d:aP.length=C.length) (c:aD∈aP):∃x,aD.map (·.1)=sortI ((t.at x).map (·.1)):=by
 refine kf (e_.mp c) λj a=>?_
 have e:=dj (d▸gA a:j<C.length)
 exact ⟨_,(b.row j aD _ a e).keys⟩
theorem Br.Tp (d:R1 t) (b:Br t ar aO C aP a8) (h:aP.length=C.length):R1 ⟨aP,a8⟩:=λi g a=>by
 refine eS (ck.mp a) λp c e=>?_
 refine iP (wy c) λk j=>?_
 refine kf (b.rowAt h j) λx f=>?_
 rw [f] at a
 exact d x g (ir.mp a)
theorem Br.sorted (d:t.Ok) (i:R1 t) (b:Br t ar aO C aP a8) (j:aP.length=C.length):∀s∈aP,sortI (s.map (·.1))=s.map (·.1)/\(s.map (·.1)).Nodup/\s.length<=5:=λs e=>by
 refine kf (b.rowAt j e) λx c=>?_
 have a:=(sortI_perm ((t.at x).map (·.1))).symm.nodup (d.rR x)
 refine iD (by rw [c];exact CX a (d.rR x) λg=>ir) (by rw [c];exact a) ?_
 rw [<-bb (f:=λp:Int×Nat=>p.1),c]
 exact xP a λg h=>i x g (ir.mp h)
theorem H7:∀(b:List Int) (s:List (Int×Nat)) (k:Nat),b.Nodup->(s.map (·.1)).Sublist b->rT k (b.map λg=>(s.lookup g).getD 0)=rT k (s.map (·.2)):=by
 intro b
 induction b with
 |nil=>
  intro s k _ h
  have:s=[]:=jx.mp (List.sublist_nil.mp h)
  rw [this];rfl
 |cons x b l=>
  intro s k j h
  have c:=(eU.mp j)
  induction f:s using el with
  |nil=>
   have r:=l [] k c.2 (Oa _)
   show (if 0>k+1 then none else rT (max k 0) _)=_
   rw [if_neg (pd _),S'];exact r
  |cons p a=>
   rw [f] at h
   by_cases i:p.1=x
   .have d:(a.map (·.1)).Sublist b:=by
     rw [eI,i] at h;exact List.cons_sublist_cons.mp h
    have e:b.map (λg=>((p::a).lookup g).getD 0)=b.map λg=>(a.lookup g).getD 0:=fo λg n=>by
     clear j h f d;obtain ⟨y,v⟩:=p
     rw [eN,beq_false_of_ne λq=>c.1 (by rw [<-i];exact q▸n)]
    have m:((p::a).lookup x).getD 0=p.2:=by
     clear j c h f d e;obtain ⟨y,v⟩:=p
     rw [eN,beq_iff_eq.mpr i.symm];rfl
    show (if ((p::a).lookup x).getD 0>k+1 then none else rT (max k (((p::a).lookup x).getD 0)) (b.map λg=>((p::a).lookup g).getD 0))=if p.2>k+1 then none else rT (max k p.2) (a.map (·.2))
    rw [m,e,l a _ c.2 d]
   .have d:((p::a).map (·.1)).Sublist b:=by
     rw [eI] at h⊢
     clear j c f;cases h with
     |cons _ h=>exact h
     |cons_cons _ h=>exact absurd rfl i
    have m:((p::a).lookup x).getD 0=0:=by
     clear j h f i;induction o:(p::a).lookup x with
     |none=>rfl
     |some t=>
      exact absurd (d.subset (nT.mp (by rw [o];rfl))) c.1
    show (if ((p::a).lookup x).getD 0>k+1 then none else rT (max k (((p::a).lookup x).getD 0)) (b.map λg=>((p::a).lookup g).getD 0))=_
    rw [m,if_neg (pd _),S']
    exact l (p::a) k c.2 d
theorem B9:∀(l c:List Int),l.Pairwise (·<·)->c.Pairwise (·<·)->(∀g∈l,g∈c)->l.Sublist c:=by
 intro l c f k h
 induction c generalizing l with
 |nil=>rw [zP.mpr λa q=>eg (h a q)];exact .slnil
 |cons x c m=>
  induction l using el with
  |nil=>exact Oa _
  |cons a l=>
  have d:=jg.mp f
  have i:=jg.mp k
  clear k;rcases eL.mp (h a (.head _)) with e |n
  .rw [e]
   refine zQ _ (m l d.2 i.2 λg b=>?_)
   exact (eL.mp (h g (.tail _ b))).resolve_left λq=>x6 g (by have:=d.1 g b;rwa [e,<-q] at this)
  .refine UZ _ (m (a::l) f i.2 λg b=>?_)
   clear f;rcases eL.mp b with e |b
   .rw [e];exact n
   .exact (eL.mp (h g (.tail _ b))).resolve_left λq=>by
     have o:=i.1 a n
     have j:=d.1 g b
     rw [q] at j
     exact x6 _ (zC o j)
theorem yK.nums (a:yK t (sortI a8) aM aD) (d:a8.Nodup) (c:D3 a8):rT 0 ([1,2,3,4,5].map λg=>(aD.lookup g).getD 0)=some aM.length:=by
 rw (config:={}) [H7 [1,2,3,4,5] aD 0 (by decide) ?_,a.num]
 rw [a.keys]
 refine B9 _ _ (M8 d) (by decide) λg b=>?_
 have:=c g (ir.mp b)
 simp only [eL,eg,or_false]
 (first |exact Dr this |exact Ds this)
theorem NV:∀(c f:List Row),(∀r∈c,∀q∈f,jv r.1 q.1=false)->(c.Pairwise λa b=>jv b.1 a.1=false)->kA f c=f++c:=by
 intro l
 induction l with
 |nil=>
  intro f _ _
  exact (eT f).symm
 |cons r c k=>
  intro f e j
  have h:=jg.mp j
  have i:¬f.any (λq=>jv r.1 q.1)=true:=by
   rw [mP,nO]
   exact λq d=>nP.mp (e r (.head _) q d)
  show kA (if _ then _ else _) c=_
  rw [if_neg i,k (f++[r]) (λa g q d=>(eG.mp d).elim (e a (.tail _ g) q) λd=>by rw [dt.mp d];exact h.1 a g) h.2,eE];rfl
theorem Qb (h:SH bj cO) (d:bj.1≠[]/\cO.1≠[]/\rS bj=rS cO):jv (xM cO).1 (xM bj).1=false:=by
 refine qY (gh d.1) λx u c=>?_
 refine qY (gh d.2.1) λy v b=>?_
 have i:x=y:=by have:=d.2.2;unfold rS at this;rw [c,b] at this;exact this
 refine nP.mpr λg=>?_
 have a:=gN.mp g
 unfold xM at a
 rw [c,b] at a
 have a:u<+:v:=a
 have j:=a.length_le
 rcases h with h |⟨f,e⟩
 .rw [c,b] at h
  exact jm _ (ej (Nat.lt_of_succ_lt_succ h) j)
 .rw [c,b] at f e
  have:=a.eq_of_length (Nat.succ.inj f)
  rw [i,this] at e
  exact oj _ e
theorem xU (e:B8 a7) (f:(aQ.map (·.1)).Nodup) (h:∀w l,(w,l)∈aQ↔(q::w,l)∈a7):(after a7 q).Perm aQ:=by
 refine (oi ?_ ?_).mpr λd=>?_
 .exact mO (S:=λa b=>a≠b) (λ{a b} h c=>oj b.1 (by rw [c] at h;exact h)) (e.after [q]).CV
 .exact mO (S:=λa b=>a≠b) (λ{a b} h c=>h (congrArg _ c)) (gk.mp f)
 .exact (jX (bj:=d)).trans (h d.1 d.2).symm
theorem R6 (d:vq aR a) (f:Jn aR a7):∀p∈aR,(after a7 p.1).Perm (live p.2)/\(after a7 p.1).Pairwise λh b=>h.1<b.1:=λp m=>by
 have g:=f.P8 d
 have i:aR.lookup p.1=some p.2:=by
  have c:=d.keys
  refine qY (nj m) λj n e=>?_
  rw [e] at c⊢
  rw [b_,eQ] at c
  refine gV.mpr (nE j n rfl (λq k=>?_))
  rw [bne_iff_ne]
  exact λo=>c.2.2 _ (fF k) p.1 (.head _) o.symm
 refine ⟨xU g (Jm p.2) λw l=>?_,(g.after [p.1]).CV⟩
 rw [f.perm.mem_iff,By d.keys,i];rfl
theorem H8 (C:aQ.Perm a7) (f:B8 a7) (d:∀r∈a7,r.1≠[]) (K:aQ.Pairwise SH):∀p∈tabOf aQ,(after a7 p.1).Perm (live p.2)/\(after a7 p.1).Pairwise λa b=>a.1<b.1:=λp G=>by
 have m:p.2=(aQ.filter λr=>decide (rS r=p.1)).map xM:=D8 aQ p G
 have c:∀r,r∈aQ↔r∈a7:=λr=>C.mem_iff
 have J:live p.2=p.2:=by
  rw [m]
  refine NV _ [] (λ_ _ _ h=>absurd h eg) (gk.mpr ?_)
  refine yb (λ{a b} z n H=>?_) (K.filter _)
  refine iP (gC.mp z) λi t=>?_
  refine iP (gC.mp n) λg k=>?_
  exact Qb H (iD (d a ((c a).mp i)) (d b ((c b).mp g)) ((of_decide_eq_true t).trans (of_decide_eq_true k).symm))
 rw [J]
 have M:∀w l,(w,l)∈p.2↔(p.1::w,l)∈a7:=λw l=>by
  rw [m,ck]
  constructor
  .intro N;refine eS N λr I e=>?_
   refine iP (gC.mp I) λB F=>?_
   refine qY (gh (d r ((c r).mp B))) λx u j=>?_
   have s:x=p.1:=by have:=of_decide_eq_true F;unfold rS at this;rw [j] at this;exact this
   have D:u=w:=by have:=(l_ e).1;rw [j] at this;exact this
   have P:r.2=l:=(l_ e).2
   rw [<-s,<-D,<-j,<-P];exact (c r).mp B
  .intro h
   exact ei _ (gC.mpr ⟨(c _).mpr h,decide_eq_true rfl⟩) rfl
 refine ⟨xU f ?_ M,(f.after [p.1]).CV⟩
 have Q:=(f.after [p.1]).CV
 rw [m,ew]
 refine yS ?_ λa z b n e=>?_
 .have O:a7.Nodup:=mO (S:=λa b=>a≠b) (λ{a b} h q=>oj b.1 (by rw [q] at h;exact h)) f.CV
  exact (C.symm.nodup O).filter _
 .refine iP (gC.mp z) λi t=>?_
  refine iP (gC.mp n) λg k=>?_
  refine qY (gh (d a ((c a).mp i))) λx u A=>?_
  refine qY (gh (d b ((c b).mp g))) λy v o=>?_
  have s:x=p.1:=by have:=of_decide_eq_true t;unfold rS at this;rw [A] at this;exact this
  have E:y=p.1:=by have:=of_decide_eq_true k;unfold rS at this;rw [o] at this;exact this
  have L:u=v:=by
   have:a.1.drop 1=b.1.drop 1:=e
   rw [A,o] at this;exact this
  exact f.uniq ((c a).mp i) ((c b).mp g) (by rw [A,o,s,E,L])
theorem KI {S:Int->List Row} (c:a8.Nodup) (d:cu.Nodup) (e:∀k,S k≠[]->k∈a8/\k∈cu):
 (((sortI a8).map λk=>(k,S k)).filter λp:Int×List Row=>!decide (p.2=[]))=((sortI cu).map λk=>(k,S k)).filter λp:Int×List Row=>!decide (p.2=[]):=by
 rw [uw,uw]
 refine congrArg _ (rD (λa b _ _ c d=>vd c d) ((sL a8).filter _) ((sL cu).filter _) ((oi (((sortI_perm a8).symm.nodup c).filter _) (((sortI_perm cu).symm.nodup d).filter _)).mpr λg=>?_))
 rw [gC,gC,ir,ir]
 constructor
 .intro f;refine iP f λa b=>?_
  exact ⟨(e g (by have:(!decide (S g=[]))=true:=b;rw [fN,decide_eq_false_iff_not] at this;exact this)).2,b⟩
 .intro h;refine iP h λa b=>?_
  exact ⟨(e g (by have:(!decide (S g=[]))=true:=b;rw [fN,decide_eq_false_iff_not] at this;exact this)).1,b⟩
theorem Uw (g:vq aR a) (b:Jn aR a7) (h:after a7 q≠[]):q∈aR.map (·.1):=by
 refine kf (jc _ h) λr c=>?_
 refine eS (mK.mp (b.perm.mem_iff.mp (jX.mp c))) λp d f=>?_
 refine eS (ck.mp f) λi _ e=>?_
 exact (ft (l_ e).1).1▸fF d
theorem KJ (b:aQ.Perm a7) (h:after a7 q≠[]):q∈(tabOf aQ).map (·.1):=by
 refine kf (jc _ h) λr a=>?_
 exact (sO (k:=rS) (x:=xM) aQ).2 q|>.mpr (ei _ (b.mem_iff.mpr (jX.mp a)) rfl)
theorem NW (d:aQ.Perm a7) (n:a7.length<=5) (i:∀r∈a7,r.1≠[]/\D3 r.1/\r.1.length<=4/\10<=r.2):vq (tabOf aQ) 5 where
 keys:=(sO aQ).1
 gl g b:=by
  refine iQ g (((sO (k:=rS) (x:=xM) aQ).2 g).mp b) λr c=>?_
  refine mT (i r (d.mem_iff.mp c)) λf a _=>?_
  refine qY (gh f) λs u e=>?_
  exact a _ (by unfold rS;rw [e];exact .head _)
 rows p l q h:=by
  have j:p.2=_:=D8 (k:=rS) (x:=xM) aQ p l
  rw [j] at h
  refine iQ q (ck.mp h) λr c=>?_
  refine wY (i r (d.mem_iff.mp (gC.mp c).1)) λf a o m=>?_
  exact ⟨λg b=>a g (vJ b),by show (r.1.drop 1).length<=3;rw [eA];exact j' o,m⟩
 K1:=by
  have:((tabOf aQ).map λp=>p.2.length).sum=aQ.length:=I8 aQ
  rw [this,d.length_eq];exact n
 ne:=Nl aQ
theorem KL (o:B8 a7):∃V:List Row,V.Perm a7/\V.Pairwise SH:=by
 let i:Row->Row->Bool:=λa b=>decide (b.1.length<a.1.length\/(a.1.length=b.1.length/\a.1<=b.1))
 have e:=wJ a7 i
 refine ei _ e ?_
 have d:=tN (le:=i) (λa b c e d=>?_) (λa b=>?_) a7
 .have m:(a7.mergeSort i).Pairwise λa b=>a.1≠b.1:=gk.mp ((e.map λr:Row=>r.1).symm.nodup (En o.CV))
  refine (vb.mpr ⟨d,m⟩).imp λ{a b} h=>?_
  rcases of_decide_eq_true h.1 with g |⟨g,l⟩
  .exact .inl g
  .exact .inr ⟨g,gj λk=>h.2 (Oc l (S_.mp k))⟩
 .refine decide_eq_true ?_
  rcases of_decide_eq_true e with e |⟨e,n⟩
  .rcases of_decide_eq_true d with d |⟨d,_⟩
   .exact .inl (gH d e)
   .exact .inl (d▸e)
  .rcases of_decide_eq_true d with d |⟨d,j⟩
   .exact .inl (e▸d)
   .exact .inr ⟨e.trans d,Q5 n j⟩
 .rw [j4,decide_eq_true_iff,decide_eq_true_iff]
  rcases zz a.1.length b.1.length with h |h |h
  .exact .inr (.inl h)
  .rcases Q6 a.1 b.1 with f |f
   .exact .inl (.inr ⟨h,f⟩)
   .exact .inr (.inr ⟨h.symm,f⟩)
  .exact .inl (.inl h)
noncomputable def wF (o:AO):Prop:=∀cl k v,o≠.list [.ref cl,.int k,.int v]
noncomputable def BJ (st st':AS):Prop:=∀x o,wF o->st x=some o->st' x=some o
theorem R7 (h:eC b p):BJ b p:=λx o _ e=>h x o e
theorem Gy (h:xK b a d o) (f:B3 b p a):BJ b p:=λx i g e=>by
 by_cases c:x=a
 .obtain ⟨k,v,cs,h⟩:=h
  rw [c,h.obj] at e
  exact absurd (d5 e).symm (g _ _ _)
 .exact (f x c).trans e
theorem Ep (a:List (AV×AV)):wF (.dict a):=λ_ _ _ h=>nomatch h
theorem z6 (c b:Nat) (a:List (Nat×AV)):wF (.inst c b a):=λ_ _ _ h=>nomatch h
theorem z7 (a:List Nat):wF (.list (a.map .ref)):=λb k v h=>by
 have h:=AO.list.inj h
 match a,h with
 |[],h=>contradiction
 |[_],h=>(injection h;contradiction)
 |_::_::_,h=>have:=(ft (ft h).2).1;contradiction
theorem z8 (a:List Int):wF (.list (a.map .int)):=λb k v h=>by
 have h:=AO.list.inj h
 match a,h with
 |[],h=>contradiction
 |_::_,h=>have:=(ft h).1;contradiction
theorem Qc (f:h->List AV) (b:List h):wF (.list (b.map λx=>.tup (f x))):=λc k v a=>by
 have a:=AO.list.inj a
 match b,a with
 |[],a=>contradiction
 |_::_,a=>have:=(ft a).1;contradiction
theorem Jp (a:List Row):wF (.list (a.map ig)):=Qc (λr:Row=>[tI r.1,.int r.2]) a
theorem kg.BJ (a:BJ b p) (h:kg b C aP):kg p C aP:=by
 induction h with
 |nil=>exact .nil
 |cons h _ c=>exact .cons (a _ _ (Ep _) h) c
theorem ng.BJ (h:ng b a t) (c:BJ b p):ng p a t:=let ⟨d,l,e,f,h⟩:=h;⟨d,l,e,f,c _ _ (z6 _ _ _) h.obj,c _ _ (z7 _) h.steps,c _ _ (z8 _) h.ends,h.AU.BJ c⟩
theorem k4.BJ (h:k4 b a aK) (c:BJ b p):k4 p a aK:=⟨c _ _ (Ep _) h.dict,λe d=>c _ _ (Jp _) (h.ls e d)⟩
theorem F_.BJ (h:F_ b a t aD aM) (e:BJ b p):F_ p a t aD aM:=by
 obtain ⟨k,l,q,n,j,h⟩:=h
 obtain ⟨o,d,f,g⟩:=h.cls
 refine ⟨k,l,q,n,j,e _ _ (z6 _ _ _) h.obj,⟨o,d,e _ _ (z6 _ _ _) f,e _ _ (Ep _) g⟩,e _ _ (z7 _) h.rows,h.len,λi r m=>e _ _ ?_ (h.row i r m),e _ _ (z8 _) h.ends,h.col⟩
 have:=z8 (aM.map λc=>c.getD i (-1))
 rwa [ew] at this
theorem wG (f:∀x∈l,Plain x) (p:Al j e b g λv s=>∃c,v= .ref c/\s c=some (.list l)) (h:∀s,eC b s->Al j e s D λv q=>∃c,v= .ref c/\q c=some (.list l)):At j e b (.cmp g .ne D) false:=
 wu (AZ p λv k m a=>by
  refine jo v a λc r=>?_
  refine qq (h k m) λv t n a=>?_
  refine jo v a λd i=>?_
  exact λQ o=>.ne (.list (n _ _ r) i f f true ⟨λ_=>rfl,λ_=>rfl⟩) (o _ rfl))
theorem NX (d:Plain i) (h:Al j e b g λv _=>v=i) (c:∀s,eC b s->Al j e s D λv _=>v=i):At j e b (.cmp g .ne D) false:=
 wu (AZ h λv k f a=>by
  subst a
  refine qq (c k f) λv n l a=>?_
  clear f h c l;subst a
  exact λQ m=>.ne (.plain d d true ⟨λ_=>rfl,λ_=>rfl⟩) (m _ rfl))
theorem sU (h:gQ b l i p):∃c,i= .ref c/\p c=some (.list l):=eS h λc e h=>(ei c e h.at_)
theorem va (R:List Row):∀x∈R.map ig,Plain x:=λx a=>by
 refine iQ x (ck.mp a) λr _=>?_;exact C1 4 r
theorem H9 (K:List (Int×List Row)):Plain (Nf K):=.tup _ _ λx b=>by
 refine iQ x (ck.mp b) λp _=>?_
 exact .tup _ _ λy a=>by
  cases a with
  |head=>exact .int _ _
  |tail _ a=>
   cases a with
   |head=>exact tK 1 p.2
   |tail _ a=>exact (eg a).elim
theorem NY (h:VE PG j g e b λv b=>VE PG j D e b λl b=>VE PG j aL e b λh b=>G' b n v l h):VE PG j (.t_ g D aL) e b n:=h
theorem Qd (h:VE PG j g e b λv b=>∀c,b.free c->n (.ref c) (b.set c (.list [v,i,af]))):VE PG j (.lst (.cons g (.cons (.cst i) (.cons (.cst af) .nil)))) e b n:=h
theorem NZ (h:∀p d s,xK s p d 0->js PG (eF PG (a+1)) ah (e.set 1 (some (.ref p))) s ag) (z:e[0]? =some (some (.BQ a8))) (D:a8.length<=63):
 js PG (eF PG (a+1)) (.cons (.asg 1 (.lst (.cons (.bin .add (.comp [none,none] (.call (.cst (.bi 9)) (.cons (.var 1) .nil)) [1] (.t_ (.var 0) (.cst .none) (.cst (.int 40))) .nil .nil) (.lst (.cons (.cst (.int 26)) (.cons (.cst (.int 17)) .nil)))) (.cons (.cst (.int 0)) (.cons (.cst (.int 0)) .nil))))) ah) e b ag:=by
 have x:Al (eF PG (a+1)) e b (.t_ (.var 0) (.cst .none) (.cst (.int 40))) (gQ b ((a8.take 40).map .int)):=λQ f=>by
  refine NY (a5 z _ (d3 _ (d3 _ (.BQ (HH (a:=40)) ?_))))
  rw [<-qj]
  exact λc q=>f _ _ (ki q.1) (ei c rfl ((fM q).own (ee _)))
 have l:(a8.take 40).length<=40:=by rw [fT];exact g9 _ _
 refine jk (Qd (yJ (xF AV.int (a_ l (by unfold fG;decide)) x (λi _ y _=>(ei [none,some (.int i)] rfl (jK (xA (i:=.bi 9) (l:=[.int i]) (af:=.int i) d3 (iO (a5 rfl)) λQ f=>jM (a:=a) (.mk (.mk f))) rfl))) _ λv y B r=>?_)))
 refine jo v r λc1 u=>?_
 refine sj (iR d3 d3) λc2 C m=>add_lists (m.le _ _ u.at_) m.at_ (by rw [bb];exact a_ (gB l _) (by unfold fG;decide)) λd A j=>?_
 intro p t
 have g:=fM (av:=.list [.ref d,.int 0,.int 0]) t
 refine h p d _ ⟨0,0,a8.take 40++[26,17],g.at_,?_,g.ne j.at_,by rw [bh];exact fC _,eK _⟩
 rw [g.le _ _ j.at_,b_];rfl
structure vI (s:AS) (p cl N c2 d1 d2 c3 t1 t2 t4 c5 t6 tb:Nat) (E1 E2:Ent) (A1 A2 B:Au) (W:List Row) (ss:List (Int×Nat)) (C:List hJ):Prop where
 R8:xK s p cl N
 l2:s c2=some (.list ([d1,d2].map .ref))
 N0:k4 s d1 E1
 Ux:k4 s d2 E2
 l3:s c3=some (.list ([t1,t2].map .ref))
 Vb:ng s t1 A1
 WN:ng s t2 A2
 HJ:∃dx,s t4=some (.inst 5 dx [(54,.ref d1)])
 wl:s c5=some (.list (W.map ig))
 lean:ng s t6 B
 st:F_ s tb B ss C
variable {cz cA cB cC cQ:Nat} {bX:Ent} {cD:Au}
theorem vI.to (h:vI b a d o ak aI bc bL bV cz cA cB cC cQ aK bX t bW cD a7 aD aM) (c:BJ b p) (f:xK p a d I):vI p a d I ak aI bc bL bV cz cA cB cC cQ aK bX t bW cD a7 aD aM:=
 ⟨f,c _ _ (z7 _) h.l2,h.N0.BJ c,h.Ux.BJ c,c _ _ (z7 _) h.l3,h.Vb.BJ c,h.WN.BJ c,kf h.HJ λg e=>⟨g,c _ _ (z6 _ _ _) e⟩,c _ _ (Jp _) h.wl,h.lean.BJ c,h.st.BJ c⟩
theorem vI.le (h:vI b a d o I ak aI bc bL bV cz cA cB cC aK bX t bW cD a7 aD aM) (c:eC b p):vI p a d o I ak aI bc bL bV cz cA cB cC aK bX t bW cD a7 aD aM:=h.to (R7 c) (h.R8.keep c)
theorem vI.same (h:vI b a d o ak aI bc bL bV cz cA cB cC cQ aK bX t bW cD a7 aD aM) (e:B3 b p a) (c:xK p a d I):vI p a d I ak aI bc bL bV cz cA cB cC cQ aK bX t bW cD a7 aD aM:=h.to (Gy h.R8 e) c
structure Uy (E1 E2:Ent) (A1 A2 B:Au) (W:List Row) (ss:List (Int×Nat)) (C:List hJ):Prop where
 t1:vq (strip E1) 5
 t2:vq (strip E2) 5
 w1:Jn (strip E1) W
 g1:∃L,tX A1 L/\L 0=W
 g2:∃W2 L,tX A2 L/\L 0=W2/\Jn (strip E2) W2
 gb:∃L,tX B L/\L 0=W
theorem KN (k:Ev j e b g (.ref a)) (f:b a=some (.list l)) (i:∀x∈l,Plain x):At j e b (.cmp g .ne (.lst .nil)) (!decide (l=[])):=
 wu λQ m=>k _ λc d=>.ne (.list ((fM d).le _ _ f) (fM d).at_ i (λ_ h=>absurd h eg) _ decide_eq_true_iff) (m _ _ (ki d.1) rfl)
theorem N1 (h:VE PG j g e b λv b=>VE PG j D e b λk b=>zE b n v k):VE PG j (.sub g D) e b n:=h
theorem Gz (i:Ev j e b g (.ref a)) (h:b a=some (.list l)):Al j e b (.t_ g (.cst .none) (.cst (.int d))) (gQ b (l.take d)):=λQ k=>NY (i _ (d3 _ (d3 _ (.list h HH λc f=>k _ _ (ki f.1) (ei c rfl ((fM f).own (ee _)))))))
theorem GA (T:vI b d o I ak aI bc bL bV cz cA cB cC cQ aK bX t bW cD a7 aD aM) (F:I<10000) (kx:∀q∈a7,q.1.length<=4) (km:a7.length<=5) {kI g:Option AV} (h:∀S (K:List Int) E g,vI E d o (I+12) ak aI bc bL bV cz cA cB cC cQ aK bX t bW cD a7 aD aM->E S=some (.list (K.map .int))->K.length<=100->js PG (eF PG (a+6)) ah [some i,some (.ref d),some (.ref ak),some (.ref bL),some (.ref cA),some (.ref cB),some (.ref cC),some (.ref cQ),some af,some b7,some (.ref S),g] E ag):
 js PG (eF PG (a+6)) (.cons (.asg 10 (.comp [none,none,some 1] (.bin .add (.cst (.int 1)) (.call (.cst (.fn 72)) (.cons (.var 2) (.cons (.cst (.int 5)) .nil)))) [1] (.call (.cst (.bi 4)) (.cons (.call (.cst (.fn 72)) (.cons (.var 1) (.cons (.cst (.int 8)) .nil))) .nil)) .nil .nil)) (.cons (.iff (.cmp (.var 5) .ne (.lst .nil)) (.cons (.asg 10 (.bin .add (.bin .add (.var 10) (.call (.cst (.bi 10)) (.cons (.sub (.sub (.var 5) (.call (.cst (.fn 72)) (.cons (.var 1) (.cons (.call (.cst (.bi 0)) (.cons (.var 5) .nil)) .nil)))) (.cst (.int 0))) .nil))) (.t_ (.var 10) (.cst .none) (.cst (.int 1))))) .nil) .nil) ah))
  [some i,some (.ref d),some (.ref ak),some (.ref bL),some (.ref cA),some (.ref cB),some (.ref cC),some (.ref cQ),some af,some b7,kI,g] b ag:=by
 refine jk (zZ (jN (g8 d3 (iR (a5 rfl) d3) (o9 (a:=a+2) (ak:=8) T.R8 (gH F (by decide)) (by decide) (by decide) λkJ s1 f O Y=>tD (a:=a+5) (eB (gH f (by decide))) ?_))))
 have ky:=T.same Y O
 refine zo O (XG F f) (λkC=>(ei [none,some kC,some (.ref d)] rfl (λkK Q N' kn kz kq=>wx d3 (g8 d3 (iR (a5 rfl) d3) (o9 (a:=a+2) (ak:=5) kn kz (by decide) (by decide) λj s i af c=>.int rfl (kq j s i af c)))))) λw s2 V TC z h5 kD kF D=>?_
 have r:vI V d o (I+9) ak aI bc bL bV cz cA cB cC cQ aK bX t bW cD a7 aD aM:=(ky.same kF (kD.mono (XH f))).le D.le
 refine pK (KN (a5 rfl) r.wl (va a7)) λR l=>⟨λM=>?_,λ_=>s_end (h TC w R _ ((r.le l).to (λ_ _ _ e=>e) ((r.le l).R8.mono (by exact d7 (by decide) _))) (l _ _ D.at_) (by exact n1 z (a_ (eB f) (by decide))))⟩
 have y:=r.le l
 have kH:0<a7.length:=by
  rw [fN,decide_eq_false_iff_not,jx] at M
  exact oN.mpr M
 have kl:=l _ _ D.at_
 have ku:Ev (eF PG (a+6)) [some i,some (.ref d),some (.ref ak),some (.ref bL),some (.ref cA),some (.ref cB),some (.ref cC),some (.ref cQ),some af,some b7,some (.ref TC),g] R (.call (.cst (.bi 0)) (.cons (.var 5) .nil)) (.int a7.length):=by
  have:=jj (a:=a+5) (e:=[some i,some (.ref d),some (.ref ak),some (.ref bL),some (.ref cA),some (.ref cB),some (.ref cC),some (.ref cQ),some af,some b7,some (.ref TC),g]) (a5 (a:=5) rfl) (f' y.wl)
  rwa [bb] at this
 refine jk (yJ (yJ (a5 rfl _ (jN (N1 (N1 (a5 rfl _ (g8 d3 (iR (a5 rfl) ku) (o9 (a:=a+2) (ak:=a7.length) y.R8 (by exact ej (qF F 9) (by decide)) kH (by exact c_ km (by decide)) λj s5 H Z P=>?_)))))))))
 have B:=y.same P Z
 have kB:(a7.map ig)[j]? =some (ig a7[j]):=by rw [ed,dj H];rfl
 have C:=kx _ (fP H)
 generalize a7[j]=q at*
 have N:=Gy y.R8 P _ _ (z8 w) kl
 refine CM B.wl kB (d3 _ (FF (a:=0) (i:=tI q.1) rfl (Gd (a:=a+5) λc6 s6 p=>add_lists (p.le _ _ N) p.at_ ?_ λc7 s7 u=>?_)))
 .rw [bb,bb];unfold fG;exact a_ (fQ (n1 z (eB f)) C) (by decide)
 rw [<-b_] at u
 have kG:=u.le _ _ (p.le _ _ N)
 refine Gz (d:=1) (a5 rfl) kG _ λv s8 J X=>?_
 refine jo v X λc8 W=>?_
 have L:=W.at_
 rw [<-qj] at L
 refine add_lists (J _ _ u.at_) L ?_ λc9 U A=>?_
 .rw [bb,bb,bh,fT];unfold fG;exact a_ (fQ (fQ (n1 z (eB f)) C) (g9 _ _)) (by decide)
 rw [<-b_] at A
 have G:eC s5 U:=b4 p.le (b4 u.le (b4 J A.le))
 refine h c9 _ U _ ((B.le G).to (λ_ _ _ e=>e) ((B.le G).R8.mono (by exact d7 (by decide:10<=12) I))) A.at_ ?_
 rw [bh,bh,fT];exact a_ (fQ (fQ (n1 z (eB f)) C) (g9 _ _)) (by decide)
theorem KO (l:Al j e b g bw) (h:∀v s,eC b s->bw v s->Ev j e s D af/\Cl j i [v,af] s n):Al j e b (.call (.cst i) (.cons g (.cons D .nil))) n:=λQ m=>l _ λv s a c=>(h v s a c).1 _ ((h v s a c).2 Q λu f k d=>m u f (b4 a k) d)
theorem sV (a:List Int):∀x∈a.map AV.int,Plain x:=wo a
theorem KP (L:vI b d o I ak aI bc bL bV cz cA cB cC cQ aK bX t bW cD a7 aD aM) (g:Uy aK bX t bW cD a7 aD aM) {G:Option AV} {cg J:Nat} (O:b cg=some (.list (a8.map .int))) (T:a8.length<=100) (h:∀X kz G,vI X d o I ak aI bc bL bV cz cA cB cC cQ aK bX t bW cD a7 aD aM->ag .next [some i,some (.ref d),some (.ref ak),some (.ref bL),some (.ref cA),some (.ref cB),some (.ref cC),some (.ref cQ),some af,some (.int J),kz,G] X):
 js PG (eF PG (a+11)) (.cons (.asg 11 (.call (.cst (.fn 75)) (.cons (.t_ (.var 2) (.cst .none) (.cst (.int 1))) (.cons (.var 10) .nil))))
  (.cons (.iff (.or (.cmp (.call (.cst (.fn 53)) (.cons (.sub (.var 3) (.cst (.int 0))) (.cons (.var 10) .nil))) .ne (.var 11)) (.or (.cmp (.call (.cst (.fn 65)) (.cons (.var 7) (.cons (.var 10) .nil))) .ne (.var 11)) (.cmp (.call (.cst (.fn 77)) (.cons (.var 6) (.cons (.var 5) (.cons (.var 10) .nil)))) .ne (.var 11)))) (.cons (.ret (.cst (.bool false))) .nil) .nil)
  (.cons (.iff (.and (.cmp (.var 9) .eq (.cst (.int 0))) (.cmp (.call (.cst (.fn 76)) (.cons (.var 4) (.cons (.var 10) .nil))) .ne (.var 11))) (.cons (.ret (.cst (.bool false))) .nil) .nil)
  (.cons (.iff (.cmp (.call (.cst (.fn 52)) (.cons (.var 3) (.cons (.var 10) .nil))) .ne (.call (.cst (.fn 75)) (.cons (.var 2) (.cons (.var 10) .nil)))) (.cons (.ret (.cst (.bool false))) .nil) .nil) .nil))))
  [some i,some (.ref d),some (.ref ak),some (.ref bL),some (.ref cA),some (.ref cB),some (.ref cC),some (.ref cQ),some af,some (.int J),some (.ref cg),G] b ag:=by
 refine eS g.g1 λL1 E R=>?_
 refine jU g.g2 λW2 L2 W kB w2=>?_
 refine eS g.gb λLB F Z=>?_
 have p:a8.length<=10000:=a_ T (by decide)
 have km:a7.length<=5:=by rw [g.w1.perm.length_eq];exact a_ (rp _) g.t1.K1
 have e1:iK (fZ [t]) a8.length a8=iK (i9 [strip aK]) a8.length a8:=rr (λs x=>(Jo E R g.w1 g.t1 x).trans (u_ _ _).symm) _ _
 have eb:iK (fZ [cD]) a8.length a8=iK (i9 [strip aK]) a8.length a8:=rr (λs x=>(Jo F Z g.w1 g.t1 x).trans (u_ _ _).symm) _ _
 have ef:iK (pa (strip aK)) a8.length a8=iK (i9 [strip aK]) a8.length a8:=rr (λs _=>(u_ _ _).symm) _ _
 have e2:iK (fZ [t,bW]) a8.length a8=iK (i9 [strip aK,strip bX]) a8.length a8:=rr (λs x=>NT E R g.w1 g.t1 W kB w2 g.t2 x) _ _
 have kx:iK (i9 ([((aI,aK):Nat×Ent)].map λd=>strip d.2)) a8.length a8=iK (i9 [strip aK]) a8.length a8:=rfl
 have kl:iK (i9 ([((aI,aK):Nat×Ent),(bc,bX)].map λd=>strip d.2)) a8.length a8=iK (i9 [strip aK,strip bX]) a8.length a8:=rfl
 refine yB (KO (Gz (d:=1) (a5 rfl) L.l2) (n:=λv s=>∃c,v= .ref c/\eC b s/\s c=some (.list ((iK (i9 [strip aK]) a8.length a8).map .int))) λv U u f=>⟨a5 rfl,?_⟩) λv U u f=>?_
 .refine jo v f λc kn=>?_
  have h1:U c=some (.list ([((aI,aK):Nat×Ent)].map λd=>.ref d.1)):=kn.at_
  exact uT (xQ (a:=a+7) h1 (λq w=>by rw [dt.mp w];exact L.N0.le u) (u _ _ O) p) λv s2 j f=>by
   refine jo v f λc' o'=>?_
   exact gp c' rfl (b4 u j) (kx▸o'.at_)
 refine gi f λA kq _ y=>?_;subst kq
 have r:=L.le u
 have D:=u _ _ O
 generalize iK (i9 [strip aK]) a8.length a8=z at*
 refine pK (aw:=false||(false||false)) (FK (wG (sV z) (λQ H=>g8 d3 (iR (fy (d:=0) (a5 rfl) r.l3 d3 rfl) (a5 rfl)) (B2 (by exact df 7 (a+4)) r.Vb E.ok D p λc N=>H _ _ (ki N.1) (ei c rfl (by rw [e1];exact gZ _ _ _)))) λs l=>jK (a5 rfl) (ei A rfl (l _ _ y))) λ_ s2 j=>
  FK (wG (sV z) (gz d3 (iR (a5 rfl) (a5 rfl)) (uT (zI (a:=a+5) (r.le j).st F.ok (j _ _ D) p) λv s3 _ f=>by rw [eb] at f;exact sU f)) λs l=>jK (a5 rfl) (ei A rfl (l _ _ (j _ _ y)))) λ_ s3 C=>
   wG (sV z) (gz d3 (vH (a5 rfl) (a5 rfl) (a5 rfl)) (uT (D' (a:=a+1) (r.le (b4 j C)).lean F.ok (r.le (b4 j C)).wl km (b4 j C _ _ D) (c_ T (by decide)) λku e _=>Z▸NU F ku) λv s4 _ f=>by rw [P_,eb] at f;exact sU f)) λs l=>jK (a5 rfl) (ei A rfl (l _ _ (b4 j C _ _ y)))) λs4 M=>⟨(by intros;contradiction),λ_=>s_end ?_⟩
 have K:=r.le M
 have Y:=M _ _ D
 refine kf K.HJ λkC ky=>?_
 refine pK (aw:=decide ((J:Int)=0)&&false) (DY (pB (f_ (fW (a5 rfl) d3 (eq_int rfl)))) λ_ s5 B=>wG (sV z) (gz d3 (iR (a5 rfl) (a5 rfl)) (uT (yP (a:=a) (B _ _ ky) (K.N0.le B) g.t1 (B _ _ Y) p) λv s6 _ f=>by rw [ef] at f;exact sU f)) λs l=>jK (a5 rfl) (ei A rfl (l _ _ (B _ _ (M _ _ y))))) λs6 S=>⟨λht=>(by rw [Qp] at ht;contradiction),λ_=>s_end ?_⟩
 have m:=K.le S
 have V:=S _ _ Y
 refine pK (aw:=false) (wG (sV (iK (i9 [strip aK,strip bX]) a8.length a8)) (λQ H=>g8 d3 (iR (a5 rfl) (a5 rfl)) (uS (C:=[bV,cz]) (cN:=[t,bW]) (by exact df 6 (a+5)) m.l3 (.cons m.Vb E.ok (.cons m.WN W.ok .nil)) V p λc N=>H _ _ (ki N.1) (ei c rfl (by rw [e2];exact gZ _ _ _)))) λs l=>gz d3 (iR (a5 rfl) (a5 rfl)) (uT (xQ (a:=a+7) (z:=[(aI,aK),(bc,bX)]) (l _ _ m.l2) (λq w=>?_) (l _ _ V) p) λv s8 _ f=>by rw [kl] at f;exact sU f)) λs7 l7=>⟨(by intros;contradiction),λ_=>s_end ?_⟩
 .rcases eL.mp w with rfl |w
  .exact m.N0.le l
  .rw [dt.mp w];exact m.Ux.le l
 .exact h s7 _ _ (m.le l7)
theorem Qe (h:VE PG j g e b λd b=>VE PG j D e b λa b=>∀c,b.free c->n (.ref c) (b.set c (.list [d,a]))):VE PG j (.lst (.cons g (.cons D .nil))) e b n:=h
theorem FQ.BJ (h:FQ b p a) (c:xK b a d o):BJ b p:=λx f g e=>h x f (λq=>by
 obtain ⟨k,v,cs,c⟩:=c
 rw [q,c.obj] at e
 exact g _ _ _ (d5 e).symm) e
theorem GB (w:xK b d o 0) (m:e[1]? =some (some (.ref d))) (h:∀c2 f g j k s,xK s d o 72->k4 s f j->k4 s g k->vq (strip j) 5->vq (strip k) 5->s c2=some (.list ([f,g].map .ref))->js PG (eF PG (a+7)) ah (e.set 2 (some (.ref c2))) s ag):
 js PG (eF PG (a+7)) (.cons (.asg 2 (.lst (.cons (.call (.cst (.fn 73)) (.cons (.var 1) .nil)) (.cons (.call (.cst (.fn 73)) (.cons (.var 1) .nil)) .nil)))) ah) e b ag:=by
 refine jk (Qe (g8 d3 (iO (a5 m)) (vS (a:=a) w (by decide) λf j A y l v t=>g8 d3 (iO (a5 m)) (vS (a:=a) l (by decide) λg k z r q u p c x=>?_))))
 have i:=fM (av:=.list [.ref f,.ref g]) x
 exact h c f g j k _ (q.keep i.le) ((v.tab.BJ (r.BJ l)).le i.le) (u.tab.le i.le) t p i.at_
theorem H_ (H:e[2]? =some (some (.ref d))) (y:b d=some (.list ([o,I].map .ref))) (N:k4 b o aK) (U:k4 b I bX) (S:vq (strip aK) 5) (O:vq (strip bX) 5) (h:∀M l m s,eC b s->s M=some (.list ([l,m].map .ref))->ng s l (jq A_ (nA (strip aK)))->ng s m (jq A_ (nA (strip bX)))->js PG (eF PG (a+6)) ah (e.set 3 (some (.ref M))) s ag):
 js PG (eF PG (a+6)) (.cons (.asg 3 (.comp [none,none] (.call (.cst (.fn 47)) (.cons (.call (.cst (.cls 5)) (.cons (.var 1) .nil)) .nil)) [1] (.var 2) .nil .nil)) ah) e b ag:=by
 refine jk (DZ (a5 H) (tx (.list d _) [(o,aK),(I,bX)] (λq=>.ref q.1) (λQ=>gJ y) (λD w s=>eC b s/\∃f:List Nat,w=f.map .ref/\f.length=D.length/\∀(i:Nat) t q,f[i]? =some t->D[i]? =some q->ng s t (jq A_ (nA (strip q.2)))) ⟨(ee _),[],rfl,rfl,(by intros;contradiction)⟩ (λ_ _ _ h=>h.1 _ _ y) ?_ ?_))
 .intro D q r' w s x W K E;refine G9 w W λr f j p=>?_
  have B:k4 b q.1 q.2/\vq (strip q.2) 5:=by
   have:=mid x
   clear H y h x E r j p;rcases eL.mp this with rfl |this
   .exact ⟨N,S⟩
   .rw [dt.mp this];exact ⟨U,O⟩
  refine ei [none,some (.ref q.1)] rfl (Ef (jN (g8 d3 (iO (a5 rfl)) (tv (df 4 _) λkl X fa _ _=>?_))))
  have z:=fM (av:=.inst 5 X [(54,.ref q.1)]) fa
  refine D7 (a:=a) (n:=λv F=>∃t,v= .ref t/\ng F t (jq A_ (nA (strip q.2)))) z.at_ ((B.1.le r).le z.le) B.2 (λt F _ A=>(ei t rfl A)) _ λv L R T=>?_
  refine jo v T λt A=>?_
  have C:=b4 z.le R
  have V:D.length<=2:=by
   have:=congrArg fk x
   rw [bh] at this
   exact a_ (eh _ _) (gy this.symm)
  refine ⟨by rw [bb,j];exact rG (a_ V (by decide)),E _ _ ⟨(b4 r C),(f++[t]),(by rw [b_];rfl),(by rw [bh,bh,j];rfl),(λi t' q' g k=>?_)⟩⟩
  rcases ke i f.length with J |G
  .rw [eO J] at g
   rw [eO (j▸J)] at k
   exact (p i t' q' g k).le C
  .rw [fm G] at g
   rw [fm (j▸G),<-j] at k
   have Z:i -f.length=0:=i7.mp (gA g)
   rw [Z] at g k
   (injection g with g;subst g);(injection k with k;subst k)
   exact A
 .intro w s L c Y u;obtain ⟨r,f,rfl,j,p⟩:=Y
  match f,j with
  |[l,m],_=>exact h c l m L (b4 r u.le) u.at_ ((p 0 l _ rfl rfl).le u.le) ((p 1 m _ rfl rfl).le u.le)
theorem N2 (i:Al j e b g n) (h:∀v c,eC b c->n v c->∃a f d,v= .ref a/\c a=some (.inst 5 f [(54,.ref d)])/\j (.fn 35) [.ref a] c bw):VE PG j (.fO g 5 .nil) e b bw:=i _ λv c o k=>by
 refine wZ (h v c o k) λa f d l p m=>?_;subst l
 exact .inst p rfl rfl rfl m
noncomputable def GC (W:List Row) (K:List Int):AV:=Nf (((sortI K).map λk=>(k,after W k)).filter λp:Int×List Row=>!decide (p.2=[]))
theorem Qf {b:Table} (c:vq aR a) (f:Jn aR a7) (g:aQ.Perm a7) (e:b=tabOf aQ):GC a7 (aR.map (·.1))=GC a7 (b.map (·.1)):=by
 subst e
 unfold GC
 rw (config:={}) [KI (a8:=aR.map λp=>p.1) (cu:=(tabOf aQ).map λp=>p.1) (S:=after a7) c.keys (sO aQ).1 λk d=>⟨Uw c f d,KJ g d⟩]
theorem Jq (g:b d=some (.inst 5 I [(54,.ref o)])) (h:k4 b o aK) (i:vq (strip aK) 5) (f:∀p∈strip aK,(after a7 p.1).Perm (live p.2)/\(after a7 p.1).Pairwise λc k=>c.1<k.1):Cl (eF PG (a+6)) (.fn 35) [.ref d] b λv _=>v=GC a7 ((strip aK).map (·.1)):=
 Kl (a:=a) g h i (after a7) (λe j=>f (e.1,e.2.2) (ck.mpr (ei e j rfl))) λ_ _=>by rw [ro];rfl
noncomputable def Bz (kvs:List (AV×AV)):List (AV×AV):=kvs.foldl (λd p=>dictPut d p.1 p.2) []
theorem KQ (a:List (AV×AV)) (p:AV×AV):Bz (a++[p])=dictPut (Bz a) p.1 p.2:=by unfold Bz;rw [iY];rfl
theorem R9 (h:i∈aC.map (·.1)):(dictPut aC i af).map (·.1)=aC.map (·.1)/\∀p∈dictPut aC i af,p∈aC\/p=(i,af):=by
 have e:dictPut aC i af=_:=if_pos h
 rw [e]
 constructor
 .rw [ew]
  refine fo λp _=>?_
  by_cases a:p.1=i
  .exact (congrArg y6 (if_pos a)).trans a.symm
  .exact congrArg y6 (if_neg a)
 .intro p a
  refine iQ p (ck.mp a) λq c=>?_
  by_cases b:q.1=i
  .exact .inr (if_pos b)
  .exact .inl (by rw [if_neg b];exact c)
theorem Qg (kvs:List (AV×AV)):(∀p∈Bz kvs,p∈kvs)/\((Bz kvs).map (·.1)).Nodup/\∀k,k∈(Bz kvs).map (·.1)↔k∈kvs.map (·.1):=by
 induction kvs using snoc_ind with
 |h0=>exact iD (by intros;contradiction) eH (λ_=>Iff.rfl)
 |h1 kvs p ih=>
  rw [KQ]
  by_cases h:p.1∈(Bz kvs).map (·.1)
  .obtain ⟨h1,h2⟩:=R9 (af:=p.2) h
   rw [h1]
   refine iD (λq hq=>?_) ih.2.1 (λk=>?_)
   .rcases h2 q hq with hq |hq
    .exact fS _ (ih.1 q hq)
    .exact fU _ (dt.mpr hq)
   .rw [ih.2.2,b_,eG]
    exact ⟨.inl,λq=>q.elim id λq=>by rw [dt.mp q];exact (ih.2.2 _).mp h⟩
  .rw [j2 h,b_]
   refine iD (λq hq=>?_) ?_ (λk=>?_)
   .rcases eG.mp hq with hq |hq
    .exact fS _ (ih.1 q hq)
    .exact fU _ hq
   .exact eQ.mpr ⟨ih.2.1,eU.mpr ⟨eg,eH⟩,λa ha b hb q=>h (by
     have e:b=p.1:=dt.mp hb
     rw [<-e,<-q];exact ha)⟩
   .rw [eG,ih.2.2,b_,eG]
noncomputable def C9 (W:List Row) (l:Int):List AV:=(W.filter λw=>decide (w.2=l)).map λw=>tI w.1
noncomputable def R' (p:Int×Nat):AV×AV:=(.int p.1,.ref p.2)
theorem N3 {y:List (Int×Nat×List hJ)} (S:ML tI b p d y) (hs:strip y=z3 a7) (kD:e[8]? =some (some (.ref d))) (Y:e[5]? =some (some (.ref o))) (P:p o=some (.list (a7.map ig))) (R:a7.length<=5):
 At (eF PG (a+1)) e p (.cmp (.var 8) .ne (.call (.cst (.bi 6)) (.cons (.comp [none,none,none,some 5] (.tup (.cons (.var 2) (.cons (.comp [none,none,none,some 2] (.var 1) [1,2] (.var 3) (.cons (.cmp (.var 2) .eq (.var 3)) .nil) .nil) .nil))) [1,2] (.var 5) .nil .nil) .nil))) false:=
 wu λQ hQ=>by
  refine QM (a5 kD) (jN (DZ (a5 Y) (tx (.list o _) a7 ig (λQ=>gJ P) (λD G s=>eC p s/\∃ps:List (Int×Nat),G=ps.map (λj=>.tup [.int j.1,.ref j.2])/\ps.map (·.1)=D.map (·.2)/\∀j∈ps,s j.2=some (.list (C9 a7 j.1))) ⟨(ee _),[],rfl,rfl,(by intros;contradiction)⟩ (λ_ _ _ h=>h.1 _ _ P) ?_ ?_)))
  .intro D q r' G s hD kx K hK;refine G9 G kx λJ ps E N=>?_
   refine ei [none,some (tI q.1),some (.int q.2),some (.ref o)] ?_ (Ef (M_ (a5 rfl) (uU (λw:Row=>decide (w.2=q.2)) (λw=>tI w.1) (eB (rG R)) (a5 rfl) (J _ _ P) (λw _ s1 O=>⟨[none,some (tI w.1),some (.int w.2),some (.int q.2)],rfl,tA (pB (f_ (fW (a5 rfl) (a5 rfl) (eq_int rfl)))),λ_ M _=>jK (a5 rfl) rfl⟩) _ λv s1 O hv=>?_)))
   .show jI [1,2] (ig q) [none,none,none,(e[5]?).join]=_
    rw [Y];rfl
   refine jo v hv λc oc=>?_
   have kB:D.length<=5:=by
    rw [hD,bh] at R;exact a_ (eh _ _) R
   refine ⟨by rw [bb,<-bb (f:=λj:Int×Nat=>j.1),E,bb];exact rG kB,hK _ _ ⟨(b4 J O),(ps++[(q.2,c)]),(by rw [b_];rfl),(by rw [b_,b_,E];rfl),(λj n=>?_)⟩⟩
   rcases eG.mp n with n |n
   .exact O _ _ (N j n)
   .rw [dt.mp n];exact oc.at_
  .intro G s M c kC T;refine Lw kC λJ ps A E N=>?_;subst A
   refine jM (.mk (.mk T.at_ ?_))
   refine gp (ps.map R') (by rw [ew];rfl) (λj n=>?_) (λkm hd=>?_)
   .refine iQ j (ck.mp n) λu _=>?_;exact oq u.1 rfl
   have z:=Qg (ps.map R')
   have V:=fM (av:=.dict (Bz (ps.map R'))) hd
   have H:eC p (M.set km (.dict (Bz (ps.map R')))):=b4 J (b4 T.le V.le)
   have kn:∀m∈y,m.2.2.map tI=C9 a7 m.1:=λm t=>by
    have:(m.1,m.2.2)∈z3 a7:=hs▸ck.mpr (ei m t rfl)
    have:=D8 (k:=λr:Row=>r.2) (x:=λr:Row=>r.1) a7 _ this
    unfold C9
    rw [show m.2.2=_ from this,ew];rfl
   have kl:∀j∈ps,(M.set km (.dict (Bz (ps.map R')))) j.2=some (.list (C9 a7 j.1)):=λj n=>V.le _ _ (T.le _ _ (N j n))
   have kq:∀l,∀u∈C9 a7 l,Plain u:=λl u hx=>by
    refine iQ u (ck.mp hx) λw _=>?_;exact xy _
   have F:(y.map (·.1)).Nodup/\∀g,g∈y.map (·.1)↔∃r∈a7,r.2=g:=by
    rw [<-ro,hs];exact sO a7
   have U:∀g:Int,AV.int g∈(Bz (ps.map R')).map (·.1)↔∃r∈a7,r.2=g:=λg=>by
    rw [z.2.2,ew,show ((λu:AV×AV=>u.1)∘R')=AV.int∘y6 from rfl,<-ew,qJ,E,ck]
   refine .ne (.Io (H _ _ S.dict) V.at_ (λI W=>?_) (λI W=>?_) ?_ (λi r xs hm hr=>?_)) (hQ _ _ H rfl)
   .refine iQ I (ck.mp W) λm t=>?_
    exact ⟨m.1,m.2.1,_,rfl,(H _ _ (S.ls m t).1),(by rw [kn m t];exact kq _)⟩
   .refine iQ I (ck.mp (z.1 I W)) λj n=>?_
    exact ⟨j.1,j.2,_,rfl,(kl j n),(kq _)⟩
   .have h1:((K0 y).map (·.1)).Nodup:=by
     rw [uV];exact yS F.1 λkF _ kG _ m=>AV.int.inj m
    have:=wD h1 z.2.1 λL=>?_
    .rw (config:={}) [bb,bb] at this;exact this
    .rw [uV]
     constructor
     .intro B
      refine iQ L (ck.mp B) λg hg=>?_
      exact (U g).mpr ((F.2 g).mp hg)
     .intro B
      refine eS (ck.mp ((z.2.2 L).mp B)) λq C m=>?_
      refine eS (ck.mp C) λj n A=>?_;subst A
      have m:L= .int j.1:=m.symm
      rw [m] at B⊢
      exact qJ.mpr ((F.2 j.1).mpr ((U j.1).mp B))
   .refine eS (ck.mp hm) λm t e2=>?_
    have X:m.1=i:=AV.int.inj (l_ e2).1
    have kz:m.2.1=r:=AV.ref.inj (l_ e2).2
    have ku:=H _ _ (S.ls m t).1
    rw [kz] at ku
    have ky:xs=C9 a7 i:=by
     have:=AO.list.inj (d5 (hr.symm.trans ku))
     rw [this,kn m t,X]
    refine eS (ck.mp ((U i).mpr ((F.2 i).mp (X▸fF t)))) λq C e3=>?_
    refine eS (ck.mp (z.1 q C)) λj n A=>?_;subst A
    have Z:j.1=i:=AV.int.inj e3
    exact ei j.2 (by rw [<-Z];exact C) (by rw [ky,<-Z];exact kl j n)
theorem Uz (kn:List Int) (mw:kn.length<=63):eF PG 50 (.fn 81) [.BQ kn] (λ_=>none) λv _=>v= .bool true:=by
 refine gR (a:=49) [some (.BQ kn),none,none,none,none,none,none,none,none,none,none,none] (by decide) rfl rfl (NZ (a:=48) (a8:=kn) (λp cl s1 hp=>?_) rfl mw)
 refine GB (a:=42) hp rfl λc2 d1 d2 J E2 s2 m8 lg lA F kC h2=>?_
 refine H_ (a:=43) (ag:=λfl _ mx=>∃m5,eC m5 mx/\y_ fl= .bool true) rfl h2 lg lA F kC λc3 t1 t2 s3 l3 h3 kW m4=>?_
 refine eS (zu F.keys) λB w1 kP=>?_
 refine eS (zu kC.keys) λW2 w2 ly=>?_
 have hW:Jn (strip J) B:=⟨w1,kP⟩
 have lO:Jn (strip E2) W2:=⟨w2,ly⟩
 have lD:∀{lJ:Table} {B:List Row},vq lJ 5->Jn lJ B->∀r∈B,r.1.length<=4/\D3 r.1/\10<=r.2/\r.1≠[]:=λhT hW r w=>D6 hT r (hW.perm.mem_iff.mp w)
 have I:=lD F hW
 have lC:=lD kC lO
 have O:B.length<=5:=by rw [w1.length_eq];exact a_ (rp _) F.K1
 have kN:sz B<1000:=by
  have:∀R:List Row,(∀r∈R,r.1.length<=4)->sz R<=9*R.length:=by
   intro R
   induction R with
   |nil=>exact λ_=>eK _
   |cons r R ih=>
    intro h
    have h1:=ih λq hq=>h q (.tail _ hq)
    have h2:=h r (.head _)
    show wt r+sz R<=9*(R.length+1)
    exact XI h1 h2
  have:=this B λr w=>(I r w).1
  exact c_ (a_ this (gT 9 O)) (by decide)
 obtain ⟨L1,g1,kO,lW,lj⟩:=Gp (aQ:=nA (strip J)) (w1.trans (p_ F.keys).symm) kP (λr w=>(I r w).2.2.1) λr w=>(I r w).2.1
 obtain ⟨L2,g2,mA,_,_⟩:=Gp (aQ:=nA (strip E2)) (w2.trans (p_ kC.keys).symm) ly (λr w=>(lC r w).2.2.1) λr w=>(lC r w).2.1
 have kY:(jq A_ (nA (strip J))).steps.length<=1000:=by
  have h1:=(CU (nA (strip J)) HO CT λr w=>(I r (w1.mem_iff.mpr ((p_ F.keys).mem_iff.mp w))).1).2.2
  have h2:(nA (strip J)).length<=5:=by rw [(p_ F.keys).length_eq,<-w1.length_eq];exact O
  have h3:A_.steps.length=1:=rfl
  exact a_ h1 (a_ (fQ (gy h3) (gT 4 h2)) (by decide))
 generalize jq A_ (nA (strip J))=A1 at*
 generalize jq A_ (nA (strip E2))=A2 at*
 have lI:∀kl,(A1.at kl).length<=5:=λkl=>by
  have:=xP (g1.ok.rR kl) (lj kl)
  rwa [bb] at this
 have mr:=l3 _ _ h2
 refine jk (g8 d3 (iO (fy (d:=0) (a5 rfl) mr d3 rfl)) (tv (by decide) λt4 lq f4 _ _=>?_))
 have n4:=fM (av:=.inst 5 lq [(54,.ref d1)]) f4
 generalize tS s3 t4 _=s4 at*
 have kX:=b4 l3 n4.le
 refine yB (gz d3 (iO (fy (d:=0) (a5 rfl) (kX _ _ h2) d3 rfl)) (A9 (a:=45) (lg.le kX) F w1 kP)) λv s5 l5 f=>?_
 refine jo v f λc5 o5=>?_
 have mz:=b4 kX l5
 refine yB (gz d3 (iO (fy (d:=0) (a5 rfl) (b4 n4.le l5 _ _ h3) d3 rfl)) (HU (a:=43) (n:=λv s=>∃M ky S C hs K,v= .ref M/\ng s M ⟨S,C⟩/\F4 A1 L1 0 (λkM=>Vs hs kM 0) K/\Br A1 L1 (λkM=>Vs hs kM 0) ky S C/\S.length=ky.length/\pV 1 0 S=some ky.length) (kW.le (b4 n4.le l5)) g1 lW lI kY
  λhl hs K s6 l6 md lX hH=>Ec (a:=43) (kW.le (b4 (b4 n4.le l5) l6)) g1 hH md lX lI kY λM ky S C s7 l7 m6 hb kq lh=>⟨M,ky,S,C,hs,K,rfl,m6,hH,hb,kq,lh⟩)) λv s6 l6 f=>?_
 refine EN f λM ky S C hs K m3=>OK m3 λkH lN hH hb kq lh=>?_;subst kH
 have z:=hb.least g1 hH kq
 rw [kO] at z
 have lH:=hb.Tp lj kq
 have lU:=hb.sorted g1.ok lj kq
 have lL:S.length<=1000:=by rw [kq];exact a_ hb.Nv kY
 have lZ:pV 1 0 S=some S.length:=by rw [kq];exact lh
 refine yB (gz d3 (iO (a5 rfl)) (yL (a:=42) (n:=λv s=>∃tb ks Z H,v= .ref tb/\ks.Nodup/\(∀g,g∈ks↔∃kl,g∈((⟨S,C⟩:Au).at kl).map (·.1))/\yK ⟨S,C⟩ (sortI ks) Z H/\F_ s tb ⟨S,C⟩ H (mQ ⟨S,C⟩::Z)) lN z.x8.ok lH lL
  λtb ks Z H s7 _ a kI c d=>⟨tb,ks,Z,H,rfl,a,kI,c,d⟩)) λv s7 l7 f=>?_
 refine G8 f λtb ks Z H lS=>qn lS λkH mm lz hC mu=>?_;subst kH
 have lG:D3 ks:=λg hg=>by refine kf ((lz g).mp hg) λkl mf=>?_;exact lH kl g mf
 have kJ:=b4 mz (b4 l6 l7)
 have kQ:eC s3 s7:=b4 n4.le (b4 l5 (b4 l6 l7))
 have km:vI s7 p cl 72 c2 d1 d2 c3 t1 t2 t4 c5 M tb J E2 A1 A2 ⟨S,C⟩ B H (mQ ⟨S,C⟩::Z):=
  ⟨m8.keep kJ,kJ _ _ h2,lg.le kJ,lA.le kJ,kQ _ _ h3,kW.le kQ,m4.le kQ,(oq lq (b4 l5 (b4 l6 l7) _ _ n4.at_)),b4 l6 l7 _ _ o5.at_,lN.le l7,mu⟩
 have hP:Uy J E2 A1 A2 ⟨S,C⟩ B H (mQ ⟨S,C⟩::Z):=⟨F,kC,hW,(ei L1 g1 kO),(mU W2 L2 g2 mA lO),(ei _ z.x8 z.l0)⟩
 refine eS (KL (hW.P8 F)) λlM hV lx=>?_
 have lR:∀{s:AS} {N:Nat} {A:Au} {L:Nat->List Row} {U:MM} {kF:CE},Ev (eF PG 49) U s kF (.ref N)->ng s N A->tX A L->L 0=B->Al (eF PG 49) U s (.call (.cst (.fn 48)) (.cons kF .nil)) λv s'=>∃c,v= .ref c/\s' c=some (.list (B.map ig)):=λ{s N A L U kF} he hA hg h0=>
  gz d3 (iO he) (uT (sk (a:=45) hA hg (by rw [h0];exact O) (by rw [h0];exact kN)) λv s' _ f=>by rw [h0] at f;exact sU f)
 refine pK (aw:=false||(false||false)) (FK (wG (va B) (lR (fy (d:=0) (a5 rfl) km.l3 d3 rfl) km.Vb g1 kO) λs l=>jK (a5 rfl) (ei c5 rfl (l _ _ km.wl))) λ_ s8 l8=>
  FK (wG (va B) (lR (a5 rfl) (km.le l8).lean z.x8 z.l0) λs l=>jK (a5 rfl) (ei c5 rfl (l _ _ (km.le l8).wl))) λ_ s9 l9=>
   NX (i:=GC B ((strip J).map (·.1))) (H9 _) ?_ λs l=>?_) λmI my=>⟨(by intros;contradiction),λ_=>s_end ?_⟩
 .have m7:=km.le (b4 l8 l9)
  refine λQ X=>N2 (gz d3 (iO (a5 rfl)) (B4 (a:=44) (n:=λv s=>∃N d dx E,v= .ref N/\s N=some (.inst 5 dx [(54,.ref d)])/\k4 s d E/\strip E=tabOf lM) m7.lean z.x8 (by rw [z.l0];exact O) (by rw [z.l0];exact kN) (by rw [z.l0];exact λr w=>(I r w).2.2.2) (a7:=lM) (by rw [z.l0];exact hV) lx
   λN d dx E s _ a kI c=>(vf N d dx E rfl a kI c))) λv lF Y f=>?_
  refine ye f λN d dx E kH a kI c=>?_;subst kH
  refine ⟨N,dx,d,rfl,a,(Jq (a:=43) (a7:=B) a kI (c▸NW hV O λr w=>⟨(I r w).2.2.2,(I r w).2.1,(I r w).1,(I r w).2.2.1⟩) (c▸H8 hV (hW.P8 F) (λr w=>(I r w).2.2.2) lx) Q λv kD kz f=>X v kD (b4 Y kz) ?_)⟩
  rw [f];exact (Qf F hW hV c).symm
 .have hL:=km.le (b4 (b4 l8 l9) l)
  refine kf hL.HJ λdx lQ=>?_
  exact λQ X=>N2 (n:=λv _=>v= .ref t4) (jK (a5 rfl) rfl) λv lF Y f=>⟨t4,dx,d1,f,(Y _ _ lQ),(Jq (a:=43) (Y _ _ lQ) (hL.N0.le Y) F (R6 F hW) Q λv kD kz f=>X v kD (b4 Y kz) f)⟩
 have kx:=km.le my
 refine pK (aw:=false||false) (FK (NX (i:=.tup [.int S.length,.int (mQ ⟨S,C⟩::Z).length]) (.tup _ _ λkM hx=>?_) ?_ λs l=>?_) λ_ lF Y=>?_) λkD kz=>⟨(by intros;contradiction),λ_=>s_end ?_⟩
 .cases hx with
  |head=>exact .int _ _
  |tail _ hx=>
   cases hx with
   |head=>exact .int _ _
   |tail _ hx=>exact (eg hx).elim
 .obtain ⟨lr,ca,lB,en,kZ,G⟩:=kx.st
  have ml:0<kZ.length:=by rw [G.len];exact z.x8.ok.pos
  have e0:=dj ml
  have kB:=jj (a:=48) (e:=[some (.BQ kn),some (.ref p),some (.ref c2),some (.ref c3),some (.ref t4),some (.ref c5),some (.ref M),some (.ref tb),none,none,none,none]) (fy (g:=.attr (.var 7) 58) (D:=.cst (.int 0)) (d:=0) (eP (a5 rfl) G.obj rfl) G.rows d3 (by rw [ed,e0];rfl)) (f' (G.row 0 _ e0))
  rw [bb] at kB
  exact jK (g7 (iR (uX (a:=45) kx.lean rfl) kB)) rfl
 .exact gz d3 (iO (a5 rfl)) (HW (a:=44) ((kx.le l).wl) O kN λ_ _=>by rw (config:={}) [<-z.size,<-z.cols hC lz lG])
 .obtain ⟨lr,ca,lB,en,kZ,G⟩:=(kx.le Y).st
  have kB:=jj (a:=48) (e:=[some (.BQ kn),some (.ref p),some (.ref c2),some (.ref c3),some (.ref t4),some (.ref c5),some (.ref M),some (.ref tb),none,none,none,none]) (eP (g:=.var 7) (a:=58) (a5 rfl) G.obj rfl) (f' G.rows)
  rw [bb,G.len] at kB
  exact pB (f_ (fW kB (uX (a:=45) (kx.le Y).lean rfl) (ne_int (by rw [decide_eq_true rfl];rfl))))
 have lu:=kx.le kz
 refine yB (gz d3 (iO (a5 rfl)) (Bf (a:=44) (n:=λv s=>∃d8 E8,v= .ref d8/\ML tI kD s d8 E8/\strip E8=z3 B) lu.lean z.x8 (by rw [z.l0];exact O) (by rw [z.l0];exact kN) λd E s _ hE hs=>(mU d E rfl hE (by rw [hs,z.l0])))) λv mH mi f=>?_
 refine v_ v f λd8 E8 h8 mj=>?_
 have lE:=lu.le mi
 refine pK (aw:=false) (N3 (a:=48) h8 mj rfl rfl lE.wl O) λmJ mh=>⟨(by intros;contradiction),λ_=>s_end ?_⟩
 have kV:=lE.le mh
 obtain ⟨mC,mD,e6,mB,hB⟩:=kV.lean
 refine pK (aw:=false) (yA (aw:=true) (rQ λQ X=>Gk (eP (a5 rfl) hB.obj rfl) (tB (λ_=>true) (λg:Int=>sl ((H.lookup g).getD 0)) [1,2,3,4,5] AV.int (by unfold fG;decide) (n:=λv _=>v= .pZ 1 6 1) (jK (vz (a:=48) (d:=1) (o:=6) d3 d3 (by decide) (by decide)) rfl) (λv kU _ kF=>(ei .pZ (λ_ _=>trivial) (λQ X=>by rw [kF];exact tw (a:=1) (d:=6) X))) λg _ kU ku=>(gp [none,some (.int g),some (.ref tb)] rfl xE (λ_ lP kT=>?_)))
  λv kU ku f=>?_)) λkU ku=>⟨(by intros;contradiction),λ_=>s_end ?_⟩
 .obtain ⟨lr,ca,lB,en,kZ,G⟩:=(kV.le (b4 ku kT)).st
  obtain ⟨mE,dc,mq,mF⟩:=id G.cls
  exact jK (λQ X=>ju (eP (a5 rfl) G.obj rfl) mq rfl rfl rfl (iO (a5 rfl)) (sh (by decide) G.cls X)) rfl
 .refine jo v f λcn on=>?_
  have lK:=on.at_
  rw [jz.mpr λ_ _=>rfl,show ([1,2,3,4,5]:List Int).map (λg=>sl ((H.lookup g).getD 0))=(([1,2,3,4,5]:List Int).map λg=>(H.lookup g).getD 0).map sl from rfl] at lK
  exact B5 (a:=45) (n:=λv _=>v= .bool true) (ku _ _ hB.steps) (hB.AU.le ku) lK lU lZ (hC.nums mm lG) lL (λ_ _=>rfl) _ λv lP kT f=>X v lP (b4 ku kT) f
 have me:=kV.le ku
 refine A7 (jN (d3 _ (tD (a:=48) (d:=3) (by decide) (iL .pZ (eR 3) (λlT=>.int (lT:Nat)) (λQ=>p8) (λD U s=>vI s p cl (72+12*D.length) c2 d1 d2 c3 t1 t2 t4 c5 M tb J E2 A1 A2 ⟨S,C⟩ B H (mQ ⟨S,C⟩::Z)/\∃w9 kK kG,U=[some (.BQ kn),some (.ref p),some (.ref c2),some (.ref c3),some (.ref t4),some (.ref c5),some (.ref M),some (.ref tb),some (.ref d8),w9,kK,kG]) ⟨me,_,_,_,rfl⟩ (λ_ _ _ _=>trivial) ?_ ?_))))
 .intro D y r' U s hD mn K hK;refine Ls U mn λhL w9 kK kG=>?_
  have m9:D.length<=3:=by
   have:=congrArg fk hD
   rw [fg,bh] at this
   exact a_ (eh _ _) (gy this.symm)
  refine ei _ rfl (GA (a:=43) hL (by exact c_ (d7 (gT 12 m9) 72) (by decide)) (λq hq=>(I q hq).1) O λcg gs s' kG lV hg lY=>KP (a:=38) lV hP hg lY λmG kK kG mv=>hK _ _ ⟨?_,_,_,_,rfl⟩)
  rw [bh,je,Nat.mul_add,Nat.mul_one,<-fK]
  exact mv
 .intro U s ma;refine Ls U ma λhL w9 kK kG=>?_
  exact iS d3 (ei _ (ee _) rfl)
end Mine
set_option tactic.hygienic true
set_option bootstrap.genMatcherCode true
set_option Elab.async true
namespace Mine.hq
theorem tw6442286201827202927:True:=⟨⟩
theorem tw13751960006981385605:True:=⟨⟩
theorem tw9901041768872518651:True:=⟨⟩
theorem tw5611102857607521741:True:=⟨⟩
theorem tw18023701660430168103:True:=⟨⟩
theorem tw15905874718496805183:True:=⟨⟩
theorem tw233199577985559970:True:=⟨⟩
theorem tw12634840236772402975:True:=⟨⟩
theorem tw11862694879087426096:True:=⟨⟩
theorem tw14338712846634258801:True:=⟨⟩
theorem tw9428742883436320482:True:=⟨⟩
theorem tw15534325259311548342:True:=⟨⟩
theorem tw12496698030514209297:True:=⟨⟩
theorem tw12664413295080255743:True:=⟨⟩
theorem tw2367623169485729044:True:=⟨⟩
theorem tw6987171224388242222:True:=⟨⟩
theorem tw7089316416521786280:True:=⟨⟩
theorem tw13553215187314863201:True:=⟨⟩
theorem tw16393828553131281715:True:=⟨⟩
theorem tw15674605124737195981:True:=⟨⟩
theorem tw1790225447845560585:True:=⟨⟩
theorem tw16809807526908380884:True:=⟨⟩
theorem tw909575876175560465:True:=⟨⟩
theorem tw15812451359255101891:True:=⟨⟩
theorem tw9083301775340355608:True:=⟨⟩
theorem tw4666310112322607275:True:=⟨⟩
theorem tw3895977767261139510:True:=⟨⟩
theorem tw16372276340707851479:True:=⟨⟩
theorem tw18430880168501906121:True:=⟨⟩
theorem tw12514970091603982059:True:=⟨⟩
theorem tw4017666659659470015:True:=⟨⟩
theorem tw12911645755892562355:True:=⟨⟩
theorem tw12505053496867080562:True:=⟨⟩
theorem tw6707030878703492132:True:=⟨⟩
theorem tw4001032458579979667:True:=⟨⟩
theorem tw8092459957483288813:True:=⟨⟩
theorem tw994457080456318729:True:=⟨⟩
theorem tw14772127340083367040:True:=⟨⟩
theorem tw7253851005133477568:True:=⟨⟩
theorem tw5691554338385257998:True:=⟨⟩
theorem tw3560430997919898871:True:=⟨⟩
theorem tw13769147277773836033:True:=⟨⟩
theorem tw9127893848950081433:True:=⟨⟩
theorem tw1515599132787875686:True:=⟨⟩
theorem tw4268526678770356015:True:=⟨⟩
theorem tw12481044172393887954:True:=⟨⟩
theorem tw13100683107442814338:True:=⟨⟩
theorem tw4701845322466739022:True:=⟨⟩
theorem tw1750795104730000546:True:=⟨⟩
theorem tw14733770234564473523:True:=⟨⟩
theorem tw8238198130762350294:True:=⟨⟩
theorem tw8914243485484973694:True:=⟨⟩
theorem tw1700315315751232304:True:=⟨⟩
theorem tw4057580815170638606:True:=⟨⟩
theorem tw18442532955660031598:True:=⟨⟩
theorem tw18257735861726044745:True:=⟨⟩
theorem tw16552130286418335332:True:=⟨⟩
theorem tw1441488458906403996:True:=⟨⟩
theorem tw7527418259463458165:True:=⟨⟩
theorem tw5028797041122850161:True:=⟨⟩
theorem tw11904904241039891960:True:=⟨⟩
theorem tw13328776239465341797:True:=⟨⟩
theorem tw2757439949053186533:True:=⟨⟩
theorem tw7179472203213589255:True:=⟨⟩
theorem tw8331520620733812097:True:=⟨⟩
theorem tw16750279658653203061:True:=⟨⟩
theorem tw8912192177817946102:True:=⟨⟩
theorem tw667236257013756550:True:=⟨⟩
theorem tw13604076548809337595:True:=⟨⟩
theorem tw5749242349582785463:True:=⟨⟩
theorem tw7511721461442411465:True:=⟨⟩
theorem tw12360401225053915393:True:=⟨⟩
theorem tw3211473203395817243:True:=⟨⟩
theorem tw14512733808186690832:True:=⟨⟩
theorem tw18340721319590389962:True:=⟨⟩
theorem tw9612742909652353465:True:=⟨⟩
theorem tw17884644973305957733:True:=⟨⟩
theorem tw1154563227431711215:True:=⟨⟩
theorem tw1803784778914781481:True:=⟨⟩
theorem tw2060327042702796305:True:=⟨⟩
theorem tw15189462117764140124:True:=⟨⟩
theorem tw3422547408385998623:True:=⟨⟩
theorem tw18332427662228458139:True:=⟨⟩
theorem tw3480666100315175299:True:=⟨⟩
theorem tw5914124745671280715:True:=⟨⟩
theorem tw14353095049506806319:True:=⟨⟩
theorem tw2996563815162090415:True:=⟨⟩
theorem tw3491428954475440883:True:=⟨⟩
theorem tw5301994602263957399:True:=⟨⟩
theorem tw11085315714167747792:True:=⟨⟩
theorem tw11341742245578585151:True:=⟨⟩
theorem tw16897822082616854030:True:=⟨⟩
theorem tw10187816474469822774:True:=⟨⟩
theorem tw5731166914374295624:True:=⟨⟩
theorem tw12889914191371890957:True:=⟨⟩
theorem tw4384125343571282268:True:=⟨⟩
theorem tw10000794576204330153:True:=⟨⟩
theorem tw2892285669437799826:True:=⟨⟩
theorem tw722643689031310280:True:=⟨⟩
theorem tw3085968280470273992:True:=⟨⟩
theorem tw3154463578298619625:True:=⟨⟩
theorem tw3544906069245241880:True:=⟨⟩
theorem tw9812839542755203597:True:=⟨⟩
theorem tw15945134739743178578:True:=⟨⟩
theorem tw2064276708794333371:True:=⟨⟩
theorem tw16752249409316337403:True:=⟨⟩
theorem tw15651339461893351178:True:=⟨⟩
theorem tw9260111500061609200:True:=⟨⟩
theorem tw1500765314571102690:True:=⟨⟩
theorem tw6118443615581677530:True:=⟨⟩
theorem tw6815685841524224632:True:=⟨⟩
theorem tw16310537014886237944:True:=⟨⟩
theorem tw540485975783732659:True:=⟨⟩
theorem tw3161153080226833229:True:=⟨⟩
theorem tw13495405613607610781:True:=⟨⟩
theorem tw13959481576897727349:True:=⟨⟩
theorem tw11150044685417158869:True:=⟨⟩
theorem tw3445220037759595600:True:=⟨⟩
theorem tw17191537605157243135:True:=⟨⟩
theorem tw13170102597804110052:True:=⟨⟩
theorem tw12617662541128001882:True:=⟨⟩
theorem tw3902250879547172936:True:=⟨⟩
theorem tw2408465754971806201:True:=⟨⟩
theorem tw6618208201849933638:True:=⟨⟩
theorem tw4991336011138955280:True:=⟨⟩
theorem tw13450832908405550097:True:=⟨⟩
theorem tw8289973216720156474:True:=⟨⟩
theorem tw9763324061818089090:True:=⟨⟩
theorem tw9375045823711978607:True:=⟨⟩
theorem tw7025414876460286934:True:=⟨⟩
theorem tw4167004640589313651:True:=⟨⟩
theorem tw3014720679539756873:True:=⟨⟩
theorem tw8049949838826251480:True:=⟨⟩
theorem tw926538531027841127:True:=⟨⟩
theorem tw8377207884362891880:True:=⟨⟩
theorem tw12590562862586613239:True:=⟨⟩
theorem tw13943852286573993618:True:=⟨⟩
theorem tw8491087748805393471:True:=⟨⟩
theorem tw3413191660162019370:True:=⟨⟩
theorem tw4194152291734139813:True:=⟨⟩
theorem tw11402776170388669038:True:=⟨⟩
theorem tw12939260477051835880:True:=⟨⟩
theorem tw17688975350060823859:True:=⟨⟩
theorem tw11955610403688730753:True:=⟨⟩
theorem tw7861226076304730246:True:=⟨⟩
theorem tw2706923899692441627:True:=⟨⟩
theorem tw17909812858496967348:True:=⟨⟩
theorem tw3478883397168826629:True:=⟨⟩
theorem tw12428739965439566872:True:=⟨⟩
theorem tw15947022525539137760:True:=⟨⟩
theorem tw14818870746610397590:True:=⟨⟩
theorem tw9524481874210789358:True:=⟨⟩
theorem tw7276312473770576539:True:=⟨⟩
theorem tw14593943014257951374:True:=⟨⟩
theorem tw5906174600817787350:True:=⟨⟩
theorem tw14641220288254092781:True:=⟨⟩
theorem tw2505651065827292706:True:=⟨⟩
theorem tw6301188507028695425:True:=⟨⟩
theorem tw16637177162505234527:True:=⟨⟩
theorem tw10657596162594908759:True:=⟨⟩
theorem tw13585818629147946182:True:=⟨⟩
theorem tw15281599693950754896:True:=⟨⟩
theorem tw17463812411989068010:True:=⟨⟩
theorem tw16867273931720873272:True:=⟨⟩
theorem tw13001207721643841512:True:=⟨⟩
theorem tw9978726442917373551:True:=⟨⟩
theorem tw4251841842268149677:True:=⟨⟩
theorem tw1869912705798827136:True:=⟨⟩
theorem tw8728209164801503031:True:=⟨⟩
theorem tw17313500477962296120:True:=⟨⟩
theorem tw6492908563196855892:True:=⟨⟩
theorem tw18287939907917545381:True:=⟨⟩
theorem tw15170669351824557439:True:=⟨⟩
theorem tw9549253132143110608:True:=⟨⟩
theorem tw18346841983034571262:True:=⟨⟩
theorem tw540608965632813519:True:=⟨⟩
theorem tw10223406500745991142:True:=⟨⟩
theorem tw4515192732947451210:True:=⟨⟩
theorem tw16941475275509793766:True:=⟨⟩
theorem tw9151865133259420103:True:=⟨⟩
theorem tw84437323512654445:True:=⟨⟩
theorem tw12420351203523029791:True:=⟨⟩
theorem tw7002464205399081975:True:=⟨⟩
theorem tw2175518295204102879:True:=⟨⟩
theorem tw7740853044027385959:True:=⟨⟩
theorem tw13992288386993298184:True:=⟨⟩
theorem tw2260561623700716748:True:=⟨⟩
theorem tw13398516417001538080:True:=⟨⟩
theorem tw5282431362952038235:True:=⟨⟩
theorem tw12485548662368916749:True:=⟨⟩
theorem tw16086767934403656065:True:=⟨⟩
theorem tw8714194948018631825:True:=⟨⟩
theorem tw4848108807988124131:True:=⟨⟩
theorem tw7441071891799560861:True:=⟨⟩
theorem tw13133925777924542315:True:=⟨⟩
theorem tw8280607470232188737:True:=⟨⟩
theorem tw13502862691939865659:True:=⟨⟩
theorem tw5812001181764318152:True:=⟨⟩
theorem tw15726504573289427775:True:=⟨⟩
theorem tw2990441756992739365:True:=⟨⟩
theorem tw2338785445158028428:True:=⟨⟩
theorem tw9895131460724483007:True:=⟨⟩
theorem tw781474288783034380:True:=⟨⟩
theorem tw10957233804992961332:True:=⟨⟩
theorem tw16854146946076394113:True:=⟨⟩
theorem tw18377318545847360015:True:=⟨⟩
theorem tw8149433206854638965:True:=⟨⟩
theorem tw7850188486041987321:True:=⟨⟩
theorem tw16549860719943262585:True:=⟨⟩
theorem tw6081658456115023458:True:=⟨⟩
theorem tw9011243111761860492:True:=⟨⟩
theorem tw3568306119967612974:True:=⟨⟩
theorem tw14587594007023303460:True:=⟨⟩
theorem tw6112821752894491310:True:=⟨⟩
theorem tw15723494032090786635:True:=⟨⟩
theorem tw9915848678032667492:True:=⟨⟩
theorem tw17389483476063430775:True:=⟨⟩
theorem tw8379139677283497518:True:=⟨⟩
theorem tw6703137428290144329:True:=⟨⟩
theorem tw8730326856917428115:True:=⟨⟩
theorem tw15256828576862472125:True:=⟨⟩
theorem tw2892858402054980869:True:=⟨⟩
theorem tw1860683089816694825:True:=⟨⟩
theorem tw13406518014326716138:True:=⟨⟩
theorem tw7219658615716743296:True:=⟨⟩
theorem tw10688613817813675982:True:=⟨⟩
theorem tw8988888807559320894:True:=⟨⟩
theorem tw17526359418520415453:True:=⟨⟩
theorem tw10844470459063464443:True:=⟨⟩
theorem tw14501324938897067561:True:=⟨⟩
theorem tw11207855887277221106:True:=⟨⟩
theorem tw12506642881698933559:True:=⟨⟩
theorem tw7544271963468501779:True:=⟨⟩
theorem tw8308388744524497552:True:=⟨⟩
theorem tw11961918275323247916:True:=⟨⟩
theorem tw285311508116289287:True:=⟨⟩
theorem tw7442177523960112853:True:=⟨⟩
theorem tw13891769438995799445:True:=⟨⟩
theorem tw456172942799691745:True:=⟨⟩
theorem tw17641890241275046623:True:=⟨⟩
theorem tw4375985329216827839:True:=⟨⟩
theorem tw11824069836422780227:True:=⟨⟩
theorem tw18276807595065023739:True:=⟨⟩
theorem tw1808943091658265301:True:=⟨⟩
theorem tw5148840542955322005:True:=⟨⟩
theorem tw16316352616789880349:True:=⟨⟩
theorem tw15385585939819168887:True:=⟨⟩
theorem tw9768242074103074221:True:=⟨⟩
theorem tw17577272718891032105:True:=⟨⟩
theorem tw14375828484873233585:True:=⟨⟩
theorem tw9133466482286349414:True:=⟨⟩
theorem tw13206510289756453029:True:=⟨⟩
theorem tw7795197914602774408:True:=⟨⟩
theorem tw10914737284747560342:True:=⟨⟩
theorem tw12285651354710344000:True:=⟨⟩
theorem tw9025512103472134450:True:=⟨⟩
theorem tw7723358927924880359:True:=⟨⟩
theorem tw17719787235402466642:True:=⟨⟩
theorem tw4741875132220596311:True:=⟨⟩
theorem tw1629939692016619404:True:=⟨⟩
theorem tw10386670604418296725:True:=⟨⟩
theorem tw4724890111835787062:True:=⟨⟩
theorem tw10340674731281136786:True:=⟨⟩
theorem tw10240522916743850443:True:=⟨⟩
theorem tw8619330007972718021:True:=⟨⟩
theorem tw779450028884369565:True:=⟨⟩
theorem tw7124110289175886657:True:=⟨⟩
theorem tw10312157954276465073:True:=⟨⟩
theorem tw4611843103851283707:True:=⟨⟩
theorem tw13169572222614648372:True:=⟨⟩
theorem tw4836737923570769024:True:=⟨⟩
theorem tw1356178445314535933:True:=⟨⟩
theorem tw9493725803484967530:True:=⟨⟩
theorem tw9034970781958629739:True:=⟨⟩
theorem tw16753647990397320144:True:=⟨⟩
theorem tw1696085958373183647:True:=⟨⟩
theorem tw3894871946632657679:True:=⟨⟩
theorem tw10599665552369709638:True:=⟨⟩
theorem tw8698537833381394938:True:=⟨⟩
theorem tw10189871300808820423:True:=⟨⟩
theorem tw13538046220882042919:True:=⟨⟩
theorem tw4771323023915023754:True:=⟨⟩
theorem tw15154717597991252850:True:=⟨⟩
theorem tw17191050232335479264:True:=⟨⟩
theorem tw8073309143868657023:True:=⟨⟩
theorem tw7143774053992968743:True:=⟨⟩
theorem tw18201938650840483205:True:=⟨⟩
theorem tw5991825269154617347:True:=⟨⟩
theorem tw14627097287796702097:True:=⟨⟩
theorem tw370567924381415039:True:=⟨⟩
theorem tw13201679970922164330:True:=⟨⟩
theorem tw781851627551156493:True:=⟨⟩
theorem tw1426369009746784495:True:=⟨⟩
theorem tw13468631102399112637:True:=⟨⟩
theorem tw14121371055001849588:True:=⟨⟩
theorem tw16807017868417353128:True:=⟨⟩
theorem tw12463699929421395298:True:=⟨⟩
theorem tw10627058812956214444:True:=⟨⟩
theorem tw10001376382149582108:True:=⟨⟩
theorem tw10443077905528899420:True:=⟨⟩
theorem tw9659669307319190640:True:=⟨⟩
theorem tw14237485161361176573:True:=⟨⟩
theorem tw1021251713497096614:True:=⟨⟩
theorem tw4371991447599467917:True:=⟨⟩
theorem tw6745714709360910150:True:=⟨⟩
theorem tw15976676881008073619:True:=⟨⟩
theorem tw524533962094920779:True:=⟨⟩
theorem tw3519017797754897595:True:=⟨⟩
theorem tw6156483766952535384:True:=⟨⟩
theorem tw2330199731370687674:True:=⟨⟩
theorem tw11092556201938335259:True:=⟨⟩
theorem tw13886267558521391256:True:=⟨⟩
theorem tw10952823829123372175:True:=⟨⟩
theorem tw6655851296632736839:True:=⟨⟩
theorem tw3858470327796980622:True:=⟨⟩
theorem tw195319319105484837:True:=⟨⟩
theorem tw8635002137240528865:True:=⟨⟩
theorem tw7907064084398135858:True:=⟨⟩
theorem tw11776274656460757702:True:=⟨⟩
theorem tw5791947149359680519:True:=⟨⟩
theorem tw4115226851099395319:True:=⟨⟩
theorem tw236723228397773276:True:=⟨⟩
theorem tw17485836952703706218:True:=⟨⟩
theorem tw18250771422189292895:True:=⟨⟩
theorem tw14287419288450536493:True:=⟨⟩
theorem tw3432454565359172088:True:=⟨⟩
theorem tw10723133140268546484:True:=⟨⟩
theorem tw13727620303709000063:True:=⟨⟩
theorem tw15734650141668845536:True:=⟨⟩
theorem tw8514201188782895330:True:=⟨⟩
theorem tw15079305990305215762:True:=⟨⟩
theorem tw917919121290004258:True:=⟨⟩
theorem tw16720732291038750756:True:=⟨⟩
theorem tw1277910818872460002:True:=⟨⟩
theorem tw18149566355827359682:True:=⟨⟩
theorem tw271354171592042819:True:=⟨⟩
theorem tw15629568606158070697:True:=⟨⟩
theorem tw10376031466752974828:True:=⟨⟩
theorem tw1325443426954384515:True:=⟨⟩
theorem tw4171725333644275513:True:=⟨⟩
theorem tw13354247350071896366:True:=⟨⟩
theorem tw3616478996217396334:True:=⟨⟩
theorem tw1775702854415158705:True:=⟨⟩
theorem tw1008392425469263001:True:=⟨⟩
theorem tw16906622726145663866:True:=⟨⟩
theorem tw7589107396602480322:True:=⟨⟩
theorem tw5294006075737667050:True:=⟨⟩
theorem tw11550264267855334806:True:=⟨⟩
theorem tw16003533353896068565:True:=⟨⟩
theorem tw3475086186801777325:True:=⟨⟩
theorem tw5895416178271551497:True:=⟨⟩
theorem tw4950995695539448390:True:=⟨⟩
theorem tw5186555515663700001:True:=⟨⟩
theorem tw16240424374227401199:True:=⟨⟩
theorem tw2568601839324270733:True:=⟨⟩
theorem tw4026668784279576677:True:=⟨⟩
theorem tw7587259842506438161:True:=⟨⟩
theorem tw3497761787417317800:True:=⟨⟩
theorem tw11895432268523212573:True:=⟨⟩
theorem tw3647894231261621685:True:=⟨⟩
theorem tw925611148017520223:True:=⟨⟩
theorem tw5613207279310253425:True:=⟨⟩
theorem tw18141165161687149130:True:=⟨⟩
theorem tw2944990559481669907:True:=⟨⟩
theorem tw16325697439411301246:True:=⟨⟩
theorem tw10557348633716791549:True:=⟨⟩
theorem tw2446711658860428672:True:=⟨⟩
theorem tw17451322227400245958:True:=⟨⟩
theorem tw14567226737135143758:True:=⟨⟩
theorem tw8474040522217814807:True:=⟨⟩
theorem tw533107537510362154:True:=⟨⟩
theorem tw8201169055858481340:True:=⟨⟩
theorem tw13139415309826760691:True:=⟨⟩
theorem tw11596143682707957329:True:=⟨⟩
theorem tw2920460233129220235:True:=⟨⟩
theorem tw5740101952899550972:True:=⟨⟩
theorem tw2921467058064614194:True:=⟨⟩
theorem tw13095705539143481525:True:=⟨⟩
theorem tw3461464765368363466:True:=⟨⟩
theorem tw3627233070818523257:True:=⟨⟩
theorem tw1658547955452154472:True:=⟨⟩
theorem tw4665913176990191628:True:=⟨⟩
theorem tw5219493252240457098:True:=⟨⟩
theorem tw15923224271504869091:True:=⟨⟩
theorem tw1575580736563710142:True:=⟨⟩
theorem tw1052231730491438768:True:=⟨⟩
theorem tw14969264746431923806:True:=⟨⟩
theorem tw12235868485125894331:True:=⟨⟩
theorem tw18227684946361417376:True:=⟨⟩
theorem tw5131631581878701464:True:=⟨⟩
theorem tw15952631729719037887:True:=⟨⟩
theorem tw9168773537736573765:True:=⟨⟩
theorem tw8612858684465989739:True:=⟨⟩
theorem tw12403577218061224004:True:=⟨⟩
theorem tw6738601660276500248:True:=⟨⟩
theorem tw384518735521986950:True:=⟨⟩
theorem tw8267469052338804902:True:=⟨⟩
theorem tw9604195178463712877:True:=⟨⟩
theorem tw541360200788322803:True:=⟨⟩
theorem tw17688041192245645826:True:=⟨⟩
theorem tw13845924549195999638:True:=⟨⟩
theorem tw17939040331521840985:True:=⟨⟩
theorem tw10010650081863701617:True:=⟨⟩
theorem tw16936868174623810526:True:=⟨⟩
theorem tw15491281439746748380:True:=⟨⟩
theorem tw14768286036203141162:True:=⟨⟩
theorem tw9709202937309959836:True:=⟨⟩
theorem tw3421353514304016194:True:=⟨⟩
theorem tw8843670863553936208:True:=⟨⟩
theorem tw13991502105691641572:True:=⟨⟩
theorem tw10760802254342755420:True:=⟨⟩
theorem tw5070146122541468937:True:=⟨⟩
theorem tw12417311007122829836:True:=⟨⟩
theorem tw7672739943655470209:True:=⟨⟩
theorem tw193804917870597374:True:=⟨⟩
theorem tw5288753061374985246:True:=⟨⟩
theorem tw9824468883573414275:True:=⟨⟩
theorem tw1618621502537572984:True:=⟨⟩
theorem tw10968501387965271627:True:=⟨⟩
theorem tw1569526789006978644:True:=⟨⟩
theorem tw13605588708827000737:True:=⟨⟩
theorem tw8316094494326325915:True:=⟨⟩
theorem tw6304881022484498786:True:=⟨⟩
theorem tw5631452819739503144:True:=⟨⟩
theorem tw17486772711794031567:True:=⟨⟩
theorem tw15114332125836811107:True:=⟨⟩
theorem tw7128186512092943417:True:=⟨⟩
theorem tw6578545976327660020:True:=⟨⟩
theorem tw6693717068639252140:True:=⟨⟩
theorem tw12058654197788596436:True:=⟨⟩
theorem tw10808934275972336993:True:=⟨⟩
theorem tw13442961659502248502:True:=⟨⟩
theorem tw14544256373392573544:True:=⟨⟩
theorem tw10846754605235202416:True:=⟨⟩
theorem tw8114841426480393502:True:=⟨⟩
theorem tw8703168442280000639:True:=⟨⟩
theorem tw16757073528338650253:True:=⟨⟩
theorem tw14187982978997237623:True:=⟨⟩
theorem tw4168501321830442705:True:=⟨⟩
theorem tw9783508634671734158:True:=⟨⟩
theorem tw12771422461613121140:True:=⟨⟩
theorem tw16038714658078415096:True:=⟨⟩
theorem tw4288558672954378248:True:=⟨⟩
theorem tw80881765779249268:True:=⟨⟩
theorem tw1500719978199872653:True:=⟨⟩
theorem tw7943481926809457172:True:=⟨⟩
theorem tw766174105371304529:True:=⟨⟩
theorem tw8804238086855099115:True:=⟨⟩
theorem tw6428791715259595817:True:=⟨⟩
theorem tw12892139197361222039:True:=⟨⟩
theorem tw16046787055161014137:True:=⟨⟩
theorem tw15256606102660637263:True:=⟨⟩
theorem tw1601456569762913703:True:=⟨⟩
theorem tw12224511430472119265:True:=⟨⟩
theorem tw13302039441676172322:True:=⟨⟩
theorem tw10366571678140251363:True:=⟨⟩
theorem tw7902054454379397355:True:=⟨⟩
theorem tw14064881765782178520:True:=⟨⟩
theorem tw8534005610739842664:True:=⟨⟩
theorem tw13358896697937006319:True:=⟨⟩
theorem tw9031073068422697509:True:=⟨⟩
theorem tw4797868753551183999:True:=⟨⟩
theorem tw4700772123730980896:True:=⟨⟩
theorem tw12219819207030029821:True:=⟨⟩
theorem tw229735081045165173:True:=⟨⟩
theorem tw8878085667783850231:True:=⟨⟩
theorem tw6847527207690855968:True:=⟨⟩
theorem tw5080482457446688561:True:=⟨⟩
theorem tw14223039591066305815:True:=⟨⟩
theorem tw13370623703081640355:True:=⟨⟩
theorem tw9616370734746824208:True:=⟨⟩
theorem tw9117675943426644266:True:=⟨⟩
theorem tw7813778406405503521:True:=⟨⟩
theorem tw13127699335793737955:True:=⟨⟩
theorem tw16653776548582141348:True:=⟨⟩
theorem tw1560922779193176835:True:=⟨⟩
theorem tw17490343775666085965:True:=⟨⟩
theorem tw12092680090172259033:True:=⟨⟩
theorem tw3702623868654441055:True:=⟨⟩
theorem tw9381266235724177792:True:=⟨⟩
theorem tw2023342415286700836:True:=⟨⟩
theorem tw8632563731568542535:True:=⟨⟩
theorem tw13946695615888808057:True:=⟨⟩
theorem tw11603209444005165735:True:=⟨⟩
theorem tw10899058296728633960:True:=⟨⟩
theorem tw2659005122276549912:True:=⟨⟩
theorem tw14236710644850426643:True:=⟨⟩
theorem tw7429005892963545473:True:=⟨⟩
theorem tw9901537562536030562:True:=⟨⟩
theorem tw8172153524177814700:True:=⟨⟩
theorem tw639632618262785173:True:=⟨⟩
theorem tw15572320602475567533:True:=⟨⟩
theorem tw8062890331336429170:True:=⟨⟩
theorem tw3279247951013379325:True:=⟨⟩
theorem tw17982033904585381360:True:=⟨⟩
theorem tw1710684574680506057:True:=⟨⟩
theorem tw16618909756484684467:True:=⟨⟩
theorem tw14343999606766158260:True:=⟨⟩
theorem tw11128039067330576404:True:=⟨⟩
theorem tw15136850233242887438:True:=⟨⟩
theorem tw1111263606911284345:True:=⟨⟩
theorem tw916591062595846547:True:=⟨⟩
theorem tw7018323970415672034:True:=⟨⟩
theorem tw4222511593086879587:True:=⟨⟩
theorem tw13510361038845904283:True:=⟨⟩
theorem tw2214581351128497116:True:=⟨⟩
theorem tw7954074512192545945:True:=⟨⟩
theorem tw430407546983676048:True:=⟨⟩
theorem tw15499493932771899486:True:=⟨⟩
theorem tw13448033582049419322:True:=⟨⟩
theorem tw18322473403635727288:True:=⟨⟩
theorem tw13258939022015726476:True:=⟨⟩
theorem tw11126235452647923558:True:=⟨⟩
theorem tw10515724994809746482:True:=⟨⟩
theorem tw16193364487119611749:True:=⟨⟩
theorem tw13101453209156903288:True:=⟨⟩
theorem tw16700103266205983162:True:=⟨⟩
theorem tw1148625622953004833:True:=⟨⟩
theorem tw13023949505232002771:True:=⟨⟩
theorem tw916892066089585398:True:=⟨⟩
theorem tw5253665795339500904:True:=⟨⟩
theorem tw12309540157064756360:True:=⟨⟩
theorem tw10935828522154542166:True:=⟨⟩
theorem tw17113052037052540601:True:=⟨⟩
theorem tw16231039490463794110:True:=⟨⟩
theorem tw5129941491527690725:True:=⟨⟩
theorem tw4330991180929535625:True:=⟨⟩
theorem tw14680810799054715792:True:=⟨⟩
theorem tw15465583547859376084:True:=⟨⟩
theorem tw12545650446048111660:True:=⟨⟩
theorem tw12964062633142722049:True:=⟨⟩
theorem tw8954724947790862241:True:=⟨⟩
theorem tw15323061056901989689:True:=⟨⟩
theorem tw12697402775899135218:True:=⟨⟩
theorem tw13276833702047066570:True:=⟨⟩
theorem tw4865120608202669494:True:=⟨⟩
theorem tw9366186876789818649:True:=⟨⟩
theorem tw3825381680432690009:True:=⟨⟩
theorem tw6545459831842007687:True:=⟨⟩
theorem tw5562705714879443458:True:=⟨⟩
theorem tw8670592598250618684:True:=⟨⟩
theorem tw4003514286515377017:True:=⟨⟩
theorem tw8039898743254704824:True:=⟨⟩
theorem tw7405370479327515870:True:=⟨⟩
theorem tw8926073059922265167:True:=⟨⟩
theorem tw16911447347678364338:True:=⟨⟩
theorem tw10671993194109991074:True:=⟨⟩
theorem tw801188883035828325:True:=⟨⟩
theorem tw11747441341411472974:True:=⟨⟩
theorem tw1738449604571460292:True:=⟨⟩
theorem tw3048173636268286377:True:=⟨⟩
theorem tw8750641756726664098:True:=⟨⟩
theorem tw3428208774654942400:True:=⟨⟩
theorem tw11762732935092854722:True:=⟨⟩
theorem tw17543646024803572876:True:=⟨⟩
theorem tw17715228584645818311:True:=⟨⟩
theorem tw4214643438969434645:True:=⟨⟩
theorem tw1765746790642755670:True:=⟨⟩
theorem tw2147655035671245215:True:=⟨⟩
theorem tw7590242246935095584:True:=⟨⟩
theorem tw18033964682163610285:True:=⟨⟩
theorem tw5831826152446136541:True:=⟨⟩
theorem tw319490229744429039:True:=⟨⟩
theorem tw12463534575930455272:True:=⟨⟩
theorem tw10371403677947509614:True:=⟨⟩
theorem tw8016986591111299822:True:=⟨⟩
theorem tw5667191905956574498:True:=⟨⟩
theorem tw15757619958402403948:True:=⟨⟩
theorem tw9011297252748127280:True:=⟨⟩
theorem tw17507516277433102289:True:=⟨⟩
theorem tw17725567851889491901:True:=⟨⟩
theorem tw2535131229827767169:True:=⟨⟩
theorem tw15182601442485666286:True:=⟨⟩
theorem tw9902246824427894004:True:=⟨⟩
theorem tw11763958687534869680:True:=⟨⟩
theorem tw14243319542641745285:True:=⟨⟩
theorem tw13976329359730278593:True:=⟨⟩
theorem tw10193580565110878322:True:=⟨⟩
theorem tw15450133903358312512:True:=⟨⟩
theorem tw6276318231578556505:True:=⟨⟩
theorem tw7567860043142866799:True:=⟨⟩
theorem tw6471536016319253370:True:=⟨⟩
theorem tw9795494098798817151:True:=⟨⟩
theorem tw11388725880924503747:True:=⟨⟩
theorem tw15906405830009952519:True:=⟨⟩
theorem tw16041765032119523446:True:=⟨⟩
theorem tw12169248792132609375:True:=⟨⟩
theorem tw10731627585904783545:True:=⟨⟩
theorem tw2117800652203068133:True:=⟨⟩
theorem tw11660552598173695988:True:=⟨⟩
theorem tw5578676019213602690:True:=⟨⟩
theorem tw6824146438439059971:True:=⟨⟩
theorem tw3513820945434300789:True:=⟨⟩
theorem tw8116986973751701504:True:=⟨⟩
theorem tw13495492352098191164:True:=⟨⟩
theorem tw9814521365788848951:True:=⟨⟩
theorem tw15722566631808388753:True:=⟨⟩
theorem tw861740461228004733:True:=⟨⟩
theorem tw7106466396363661638:True:=⟨⟩
theorem tw12849039064130270240:True:=⟨⟩
theorem tw1134308104302756972:True:=⟨⟩
theorem tw3010439092301040486:True:=⟨⟩
theorem tw17816717856086174358:True:=⟨⟩
theorem tw11149061711742648548:True:=⟨⟩
theorem tw14036627289367018796:True:=⟨⟩
theorem tw5429477869994368367:True:=⟨⟩
theorem tw7940537527954018458:True:=⟨⟩
theorem tw2604901424036541063:True:=⟨⟩
theorem tw15487811534215124188:True:=⟨⟩
theorem tw18064312367536619883:True:=⟨⟩
theorem tw4824584372287218620:True:=⟨⟩
theorem tw9048559258887259956:True:=⟨⟩
theorem tw7884614384692140816:True:=⟨⟩
theorem tw16367165154766714319:True:=⟨⟩
theorem tw15516981214852613888:True:=⟨⟩
theorem tw2460405866545305436:True:=⟨⟩
theorem tw12551386086251720438:True:=⟨⟩
theorem tw10183426290553673610:True:=⟨⟩
theorem tw9290384812151408565:True:=⟨⟩
theorem tw15299981847786275131:True:=⟨⟩
theorem tw5943282786193848066:True:=⟨⟩
theorem tw17570233290061857690:True:=⟨⟩
theorem tw15359170853323125327:True:=⟨⟩
theorem tw13230364761691088398:True:=⟨⟩
theorem tw7574501811584800559:True:=⟨⟩
theorem tw11762900114938904890:True:=⟨⟩
theorem tw3061969403100960489:True:=⟨⟩
theorem tw9177684151223994519:True:=⟨⟩
theorem tw14810766176975304553:True:=⟨⟩
theorem tw14065372797180803292:True:=⟨⟩
theorem tw8783513367562574285:True:=⟨⟩
theorem tw5210627090501227785:True:=⟨⟩
theorem tw9024074512309037242:True:=⟨⟩
theorem tw7632206556856918147:True:=⟨⟩
theorem tw16535360979341041665:True:=⟨⟩
end Mine.hq
open PySem PySem.W PyProof.Rows
set_option maxHeartbeats 8000000 in
theorem Mine.hq:PySem.Challenge.rw_nu0236_01.Holds:=by
 w_on;o_law;k_head;(case hw=>w_witness2)
 k_fill
 intro w s₀ s₁ mg mb G Y fa o pm cd doc dV kV ho hd hcd hD hmg hg args vals as hpre hlay hrd hwl hlo
 have KX:=km_in_of Y
 have hT:=km_tabs_of Y Mine.EE (List.mem_singleton.mpr rfl)
 have e1:Str.ofString "law"=⟨⟨[108,97,119]⟩⟩:=by decide +kernel
 have hmg1:mg (Str.ofString "law")=some (.ref fa):=hmg
 rw [e1] at hmg1
 clear ho hd hcd hD hmg
 wrow_args hpre hlay hrd hwl hlo
 exact Mine.Um Mine.Uz G (by kernel_rfl) KX hT ⟨by kernel_rfl,by kernel_rfl,by kernel_rfl,by kernel_rfl,by kernel_rfl,by kernel_rfl,by kernel_rfl,by kernel_rfl,by kernel_rfl,by kernel_rfl⟩ hg hmg1 (by assumption) (by assumption) (by assumption)
theorem PySem.Challenge.cw_nu0236_01_holds : PySem.Challenge.rw_nu0236_01.Holds :=
 Mine.hq
