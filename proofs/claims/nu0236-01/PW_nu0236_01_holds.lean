import PyProof.Rows.All
import PySem.Eval
import Wide.All
import OpenK.AllK
import Wide.FinOn
import KE.KDictLaws
import Flt.Ops
import KE.LcSums
import KE.KDictOf
import KE.KSortTup
import KE.KDictSum
import KE.KEqDict
import PyProof.AttrMissHeap
import KE.KLam
import KE.KSortKey
import KE.KNestM
import Lean
import PySem.Challenge.RW_nu0236_01
set_option tactic.hygienic false
set_option bootstrap.genMatcherCode false
set_option genInjectivity false
set_option genSizeOf false
set_option backward.eqns.nonrecursive false
set_option maxRecDepth 100000
set_option linter.unusedVariables false
set_option linter.unusedSectionVars false
open Nat renaming le_trans->a_,lt_of_le_of_lt->c4,le_add_left->c_,add_le_add_left->d5,le_add_right->eg,lt_of_lt_of_le->eh,le_of_lt->eA,le_refl->eJ,le_of_lt_succ->eX,add_comm->eY,succ_le_succ->fg,zero_le->ft,succ_pos->fz,lt_of_lt_of_eq->fA,lt_succ_self->fG,add_assoc->fI,add_le_add->fO,le_succ_of_le->fY,lt_add_of_pos_right->gj,le_of_eq->gu,add_le_add_right->gz,lt_trans->gF,mul_le_mul_left->gQ,le_of_succ_le_succ->gY,add_right_comm->gZ,min_le_left->g7,add_sub_cancel_left->ib,le_antisymm->ir,zero_add->iW,sub_pos_of_lt->iX,not_lt->iY,lt_one_iff->iZ,sub_lt_sub_left->i3,le_of_ble_eq_true->ja,lt_irrefl->jg,casesOn->ji,lt_succ_of_lt->jq,sub_self->jB,sub_le->jQ,min_eq_left->j3,sub_le_of_le_add->j8,one_pos->j9,lt_or_ge->j',sub_lt->kf,le_of_not_lt->mM,lt_of_le_of_ne->nh,le_mul_of_pos_left->ni,le_of_sub_eq_zero->nG,eq_of_beq_eq_true->nH,succ_le_of_lt->nS,le_of_succ_le->nT,succ_lt_succ->ox,ne_of_gt->oy,not_lt_zero->o9,sub_add_cancel->pb,exists_eq_add_of_le->pB,lt_of_succ_lt->pI,lt_of_add_right_lt->pJ,le_add_right_of_le->pK,min_le_right->qg,add_lt_add_right->qE,add_sub_cancel'->ru,add_lt_add_left->rv,ne_of_lt->rz,succ->rW,ble->sT,succ_ne_zero->tW,min_eq_right->tX,sub_eq_zero_iff_le->ui,le_total->uj,sub_eq_zero_of_le->vB,le_succ->v3,not_le->x9,lt_trichotomy->zy,lt_of_le_pred->zz,max_eq_right->Ab,lt_add_right->Ac,max_eq_left->BL,sub_one_sub_lt_of_lt->EC,lt_succ_iff_lt_or_eq->ED,min_self->GW,beq->GX,add_le_of_le_sub'->H_,sub_succ_lt_self->Ju,not_succ_le_self->Jv,rec->N3,lt_of_sub_pos->N4,succ_ne_self->OA,sub_add_comm->OB,zero_lt_one->Qg,sub_add_eq->QY,succ_inj->SQ,mul_succ->SR,max_zero->SV,sub_sub->UD,one_mul->UE,mod_lt->U8
open List renaming length_map->bb,length_append->bh,map_append->b_,mem_map->ck,getElem?_eq_getElem->df,mem_singleton->dk,getD_eq_getElem?_getD->d_,getElem?_map->ed,not_mem_nil->ee,casesOn->ej,map_map->er,getElem?_eq_some_iff->ew,length_drop->ey,append_assoc->eC,mem_append->eF,map_cons->eG,nodup_nil->eI,mem_cons->eK,lookup_cons->eM,getElem?_append_left->eN,nodup_append->eP,range->eQ,append_nil->eR,nodup_cons->eT,mem_range->eU,mem_iff_getElem?->eZ,length_cons->e_,length_range->fc,mem_of_getElem?->fh,length->fi,getElem?_append_right->fj,map_congr_left->fk,mem_map_of_mem->fC,getElem_mem->fN,drop_eq_getElem_cons->fP,mem_append_left->fQ,length_take->fR,mem_append_right->fS,exists_cons_of_ne_nil->gf,pairwise_map->gh,replicate->gk,mem_filter->gA,length_set->gI,lookup_eq_some_iff->gS,length_eq_zero_iff->gT,drop_drop->ig,getElem?_set_ne->iH,cons_append->iI,getElem?_inj->iR,foldl_append->iS,flatMap_cons->iT,drop_left->iU,getElem?_eq_none_iff->i6,exists_mem_of_ne_nil->i7,length_singleton->i9,getElem?_eq_none->i_,pairwise_cons->jb,toArray->jf,map_eq_nil_iff->jt,getElem?_range->ju,filter_eq_self->jv,getElem?_concat_length->jz,filter_eq_nil_iff->jA,sum_cons->jC,find?_eq_none->jL,cons_prefix_cons->jR,size_toArray->j4,flatMap_append->kA,filter_cons_of_pos->k8,filter_cons_of_neg->k9,all_eq_true->k_,find?_eq_some_iff_append->mT,take_of_length_le->mZ,append_of_mem->m_,reverse_cons->nI,getElem?_set->nJ,any_eq_false->nK,perm_ext_iff_of_nodup->oa,lt_irrefl->oe,mem_flatMap->oq,drop_length->ot,pairwise_iff_getElem->oz,length_pos_iff->oG,map_drop->oT,mem_mapIdx->o7,zip_cons_cons->o_,getElem?_drop->pa,lookup->pd,countP_cons_of_pos->pe,map_nil->pC,drop_eq_nil_of_le->pD,length_replicate->pU,map_reverse->p9,isEmpty_iff->p_,cons_ne_nil->qa,any_eq_true->qb,map_take->qh,mem_of_mem_take->qr,sum_append->qJ,length_nil->qK,forIn_cons->qL,find?_cons->qM,getElem_of_mem->qS,filterMap_cons->qT,ne_nil_of_mem->rF,drop_zero->rG,mem_of_find?_eq_some->sm,map_inj_left->sv,pairwise_mergeSort->tK,getElem?_replicate->tL,getElem?_cons_zero->tM,getElem?_cons_succ->tN,countP_cons_of_neg->tO,range_succ_eq_map->uf,nil_prefix->uk,filter_map->uo,pairwise_and_iff->uZ,mem_of_mem_drop->vH,forall_mem_cons->vI,filterMap->vJ,drop->v5,replicate_succ->wH,mergeSort_perm->wI,prefix_append->xV,map_replicate->xW,length_mapIdx->xX,filter_append->xY,ext_getElem?->yZ,prefix_of_prefix_length_le->zA,getElem_map->zN,flatMap_nil->zO,eq_nil_iff_forall_not_mem->zP,nil_append->BB,find?_some->BC,foldr_map->B8,drop_take->B9,getElem?_take_of_lt->Ew,head_eq_of_cons_eq->EE,all_eq_not_any_not->EF,set_set->GD,map_set->GF,getElem?_set_self->GH,find?_cons_of_pos->GI,find?_cons_of_neg->GJ,drop_of_length_le->GK,take_append_drop->GY,length_filter_le->GZ,eq_replicate_iff->G0,dropLast_eq_take->G1,cons_lt_cons_iff->G2,map_id->Ia,getElem?_mapIdx->Ib,forall_mem_nil->Jw,mapIdx_concat->KR,findIdx?_cons->KS,filterMap_map->KU,take_add_one->K_,flatten_cons->La,find?_isSome->Lb,take_length->N5,nil_sublist->N6,map_snd_zip->N7,le_antisymm->N8,isEmpty_nil->N9,flatMap_map->N_,cons->Oa,append_inj'->Ob,not_lt_nil->OC,length_zip->OD,take_left->Qh,foldl_nil->Qi,take_nil->QZ,le_trans->Q0,le_total->Q1,not_lt->SW,filter->SX,foldl->UG,take->U9,getD->U'
open PySem renaming wpAny_bind->b5,wpAny_pure->dj,wpAny_mono->el,Value->eH,Shared->eL,wpAny_holding->f5,wpAny->f_,Expr->gc,Addr->gX,model->hJ,mainGlobals->iD,Around->jc,valueAt->jm,builtinsNs->j0,Str->j7,wpAny_newObj_type->ko,wpAny_standAt->mL,wpAny_call_entry->nc,starEach->ng,call->nB,sizeLine_eq->nC,wpAny_rule->nE,wpAny_ite_false->nU,wpAny_truthy_bool->oo,intKind_is->pH,wpAny_callSpecial?_slot->pQ,DictEntry->pR,wpAny_forIn_list->qQ,compareOp->qR,swappedStores->rp,assignInOrder->rq,wpAny_specialOf->rS,letOwnedTupleGo->rT,wpAny_typeOf->sq,codeAny->sr,wpAny_seqItems->sU,typeLookup->sV,compTurn->sW,backTo->sX,wpAny_sequenceKey->t9,wpAny_field->t_,slot_list_setitem->ua,sliceBounds->ub,getMethod_builtin->uc,wpAny_getItem_list_slice->ug,Comprehension->uh,swapsWith->vy,cLine->vz,NameKind->vA,newEnv->vU,eval->vV,call_meets->vW,Heap->vX,Builtin->vY,wpAny_notOrdered_dict->wL,sizeLine->x7,assign->x8,holding->yR,getItem->yS,codeAmong->yT,Arguments->yX,Stmt->zu,Env->zw,wpAny_newList->zM,wpAny_tupleItemsOf->z8,sysModules->z9,assignEach->z_,wpAny_pyIter_list->BG,callWith->BH,numAt->Em,Scope->En,CmpOp->Et,wpAny_execs_nil->Ez,truthy->EA,Pos->EB,standAt->Gz,setItem->GA,Program->GB,wpAny_listPart->GO,newFunctionEnv->GP,isTrue->GQ,dictSetDefault->GR,constantsAlone->GS,closureFor->GU,FuncData->GV,wpAny_UnaryOp->Jp,evalPart_none->Jq,behindInMarks->Jr,slicePick->KN,wpAny_Assign_Subscript->KY,rawInt->KZ,dictSet->K0,call_meetsIn->K1,bootBuiltins->K4,IsPart->K8,isSubtype_tuple_tuple->N1,wpAny_Slice->Ou,keywordEach->Ov,Sem->Ox,wpAny_call->QP,wpAny_assign_Tuple->QQ,wpAny_Constant_int->QR,reduceHash->QS,pyIter->QT,getattributeRaised->QU,entry_list_setitem->QV,wpAny_isNot_plain->R4,wpAny_dictFind_of->R5,wpAny_collect_seq->R6,wpAny_builtinsFor->R7,wpAny_assign_Name->R8,spliced->R9,slot_list_getitem->R',slot_dict_setitem->R_,foldedSetIterable->Sa,atKey->Sb,args_list_setitem->Sd,wpAny_isInstance->Sv,wpAny_askSetting->Sw,storeName->Sx,seqIndex?->Sy,noteFrame->Sz,noFill_tuple_add->SA,getMethod->SD,args_list_append->SF,TriplesOk->SJ,theTreesLotGoes->Uk,codeAny_builtin->Ul,Fin->Um,wpAny_newTuple->UU,wpAny_loadPart->UW,wpAny_is_plain->UX,pyNext->UY,methodCallForm->UZ,keeperOf->U0,bindName->U1,backToKw->U2,swapsWithSole->VQ,seq_tuple_add->VR,plainId_quiet->VU,methodCallPos->VV,comprehension->VW,attributeBase->VX,wpAny_lt_int->Wg,relabel->Wh,newList->Wi,intKind->Wj,concat_meets->Wk,argBest->Wl,OsState->Wr,Keyword->Ws,wpAny_of_eq->Yp,wpAny_nsGet->Yq,wpAny_noted->Yr,wpAny_letGo->Ys,wpAny_alloc->Yt,again->Yu,World->Yv,Reads->Yy,typeIs_int->YB,sliceRange->YC,nsFind->YD,isInstance->YE,checkCount->YF,cellOf->YG,Obj->YI,BoolOp->YV
open Option.some renaming inj->d3,injEq->jK
open Option renaming casesOn->d7,map_eq_some_iff->fV,bind_eq_some_iff->jh,map_some->jV,isNone_iff_eq_none->BK,isNone_none->H9,isSome_map->Jt,getD_none->KQ,ctorIdx->N2
open Array renaming length_toList->eB,getElem?_toList->gE,getElem?_eq_getElem->ow,toList_append->oB,toList_push->so,isEmpty->wJ,getElem?_eq_none->EH,forIn_toList->Jy,any_toList->Lf
open Bool renaming and_eq_true->eV,not_eq_true'->fK,false_eq_true->fW,false_ne_true->gL,not_eq_false'->jM,or_eq_true->j1,casesOn->j5,not_eq_true->l_,eq_false_iff->nL,and_eq_true_iff->qx,not_true->wQ,eq_iff_iff->BE,and_false->Ql,false_or->Q2,and_true->Q3
open PySem.Heap renaming get?_push_size->eW,get?_push_of_some->fm,SameBut->iE,get?_update_self->nD,lt_size->rr,size_push->rE,ExtBut->SK
open List.cons renaming inj->fo,injEq->ix
open PySem.NameKind renaming free->fB,cell->f6,casesOn->H8
open PySem.Obj renaming mapSeq->fJ,data_mapDictKeys->Js,isFreed_of_dict->KP,data_mapDict->Oy
open PySem.Challenge renaming rw_nu0236_01->fT
open Classical renaming byContradiction->gg,propDecidable->WD,not_not->WG
open PyProof.Rows renaming seqObj->gr,listUpdate_at->rt,get?_update_seq->rV,slot_tuple_getitem->Aa,neg_int->BA,seqEpoch_at->Eu,IntsAre->GC,listItems_at->K9,truthy_int->Uw,lt_int->Ux,le_int->Uy,gt_int->Uz,ge_int->UA,entry_list_sort->UB,assign_Name->UC,slot_list_sort->U5,slicePart_none->U6,failedOf->U7,spliced_none->Wu,spliced_more->Wv,plain_sorted->Ww,entry_sorted->Wx,Assign_Tuple->Wy,kind_sorted->Yz,importsNone->YA,isTrue_and->YW
open Int renaming natCast_nonneg->gC,ofNat_le->gR,ofNat_lt->h9,le_trans->jD,sub_add_cancel->nj,not_lt->nq,not_lt_of_ge->oA,ediv_one->pL,toNat->qi,max_eq_right->qj,add_sub_cancel->rX,eq_ofNat_of_zero_le->tY,le_antisymm->u_,sub_nonneg_of_le->v7,le_refl->v8,lt_irrefl->xZ,lt_of_le_of_lt->ya,lt_trans->zB,le_of_lt->zC,neg_neg->BD,ofNat_natAbs_of_nonpos->C8,not_le->C9,toNat_sub->EG,add_comm->G3,sub_neg->Jx,toNat_le_toNat->Lc,natAbs->Ld,lt_of_lt_of_le->Le,toNat_eq_zero->Oc,natAbs_sub_le->Od,ofNat->OE,lt_of_not_ge->OF,min_eq_left->Qj,max_eq_left->Qk,ofNat_sub->Sg,le_natAbs->Sh,mul_comm->SY,lt_toNat->S1,le_total->S2,le_of_eq->S3,add_zero->S4,one_mul->UK
open PySem.Heap.SameBut renaming update->gJ
open PySem.Builtin.Range renaming rangeSize->iw,rangeFitsLong->wG,small->Bz
open ForInStep renaming yield->iN
open PySem.Str renaming ofString->iV
open PySem.Value renaming none->jn,casesOn->p8,isStr->qc,type->wM,builtin->C6,noConfusion->KO,ref->K7
open Prod.mk renaming inj->k7,injEq->BI
open List.Pairwise renaming imp->l',imp_of_mem->x_,map->B_
open PySem.PyData renaming eqv->mS,keyHash->pA,depthAll->qq,eqvAll->sl,canLayAll0->xT,depth->Eo,strOk->Qd
open PySem.W.Looks renaming of_pure->nx
open PySem.Builtin.Slice renaming slicePlaces->ny,sliceAdjust->qe,sliceApplied->wO,slicePartIndex->SN,sliceFields->SP
open Ne renaming symm->nz
open PySem.Builtin.Tuple renaming tupleExact->nF,tupleHashOf->qd,tupleItemsOf->wN,tupleIsExact->SM
open Function renaming comp->ou
open PySem.Builtin.List renaming listSubscript?->pS,listTooLong->yV,listSameRef->yW,listUpdate->Un,listItems->Uo,listFitsIndex->Up,listAllItems->Uq
open PySem.W renaming dictOf->rx,findIn->sY,instObj->ud,emptyDict->yU,Frag->zt,tabObj->K5,hideAll->K6,kat_snds->Ow,getL->QW,kas_ask->Se,specialIn->SG,plainOver->SH,hasDictIn->SI,keepIn->U3,Ground->U4,takesIn->Wm,takerIn->Wn,putName_dict->Wo,putL->Wq,codeHd_of_K->Yw,callWith_of->Yx,lookIn->YH
open List.Perm renaming eq_of_pairwise->rA,append_left->B',trans->Ic,of_eq->Wz,map->WA,flatMap_right->WB,append_right->WC
open Int.ofNat renaming inj->rB
open Eq renaming symm->rH
open PySem.F renaming slot_list_append->rU,slot_tuple_hash->tJ,slot_list_getattribute->tU,slot_dict_get->tV,slot_dict_setdefault->zv,entry_list_append->By,plainAttrs_list->B6,plainAttrs_dict->B7,entry_dict_get->C7,slot_tuple_lt->Er,slot_list_pop->Es,args_tuple_add_2->Oz,entry_tuple_add->Qe,slot_tuple_add->QX,slot_int_rmul->Sf,type_list_pop->YJ,type_list_append->YK,type_dict_setdefault->YL,type_dict_get->YM,entry_tuple_lt->YN,entry_list_pop->YO,entry_dict_setdefault->YP,args_tuple_lt_2->YQ,args_list_pop_1->YR,args_dict_setdefault_3->YS,args_dict_get_3->YT,args_dict_get_2->YU
open PySem.Heap.IsSliceOf renaming new->tH
open PySem.Expr renaming casesOn->ue
open PySem.AutoListH renaming list_append_list_val_0->vZ,list___mul___list_int_3->Wt
open PySem.Keeper renaming boundFrame->xU,machine->Bx,frame->Ep
open Prod renaming fst->yY,ext->Qf
open PySem.Builtin.Dict renaming updateFrom->zx,selfAndRest->Ur,pairItems->Us,notOrdered->Ut,keyAndDefault->Uu,addKeywords->Uv
open List.Sublist renaming cons_cons->zQ,map->UH,cons->UI,append_left->UJ
open PUnit renaming unit->BJ
namespace Mine
universe u
@[elab_as_elim] theorem WH {c:Sort u} {a b:c} {P:c->Prop} (h:a=b) (m:P b):P a:=h▸m
@[elab_as_elim] theorem WI {c:Sort u} {a b:c} {P:c->Prop} (h:b=a) (m:P b):P a:=h▸m
variable {y ai aF:Prop}
theorem iK (h:y/\ai) (k:y->ai->aF):aF:=by
 rcases h with ⟨b,a⟩;exact k b a
variable {h:Type} {dm:h->Prop}
theorem j_ (c:∃a:h,dm a) (k:∀a,dm a->y):y:=by
 rcases c with ⟨a,b⟩;exact k a b
variable {t:Type} {dA:h->t} {dB:t->Prop}
@[elab_as_elim] theorem rY (b:t) (c:∃a:h,b=dA a) (k:∀a,dB (dA a)):dB b:=by
 rcases c with ⟨a,rfl⟩;exact k a
variable {dp:h}
@[elab_as_elim] theorem Qm (a:h) (c:a=dp/\y) (k:y->dm dp):dm a:=by
 rcases c with ⟨rfl,b⟩;exact k b
variable {dW:t} {dn:h->t->Prop}
@[elab_as_elim] theorem KV (a:h) (b:t) (c:a=dp/\b=dW) (k:dn dp dW):dn a b:=by
 rcases c with ⟨rfl,rfl⟩;exact k
variable {aR:Prop}
theorem mV (h:y/\ai/\aF) (k:y->ai->aF->aR):aR:=by
 rcases h with ⟨c,b,a⟩;exact k c b a
variable {dz:h->Prop}
theorem eS (d:∃a:h,dm a/\dz a) (k:∀a,dm a->dz a->y):y:=by
 rcases d with ⟨a,c,b⟩;exact k a c b
@[elab_as_elim] theorem iQ (b:t) (d:∃a:h,dm a/\dA a=b) (k:∀a,dm a->dB (dA a)):dB b:=by
 rcases d with ⟨a,c,rfl⟩;exact k a c
@[elab_as_elim] theorem Lg (b:t) (d:∃a:h,dm a/\b=dA a) (k:∀a,dm a->dB (dA a)):dB b:=by
 rcases d with ⟨a,c,rfl⟩;exact k a c
@[elab_as_elim] theorem jj (b:t) (d:∃a:h,b=dA a/\dm a) (k:∀a,dm a->dB (dA a)):dB b:=by
 rcases d with ⟨a,rfl,c⟩;exact k a c
theorem Cb (d:y/\∃a:h,∃b:t,dn a b) (k:y->∀a,∀b,dn a b->ai):ai:=by
 rcases d with ⟨e,a,b,c⟩;exact k e a b c
variable {dF:h->Prop}
theorem gi (e:∃a:h,dm a/\dz a/\dF a) (k:∀a,dm a->dz a->dF a->y):y:=by
 rcases e with ⟨a,d,b,c⟩;exact k a d b c
variable {du:h->t->Prop}
theorem i5 (e:∃a:h,∃b:t,dn a b/\du a b) (k:∀a,∀b,dn a b->du a b->y):y:=by
 rcases e with ⟨a,b,c,d⟩;exact k a b c d
variable {dD:h->t->Prop}
theorem jS (f:∃a:h,∃b:t,dn a b/\du a b/\dD a b) (k:∀a,∀b,dn a b->du a b->dD a b->y):y:=by
 rcases f with ⟨a,b,c,d,e⟩;exact k a b c d e
variable {a9:Type} {dJ:h->t->a9} {dK:a9->Prop}
@[elab_as_elim] theorem v9 (c:a9) (f:∃a:h,∃b:t,c=dJ a b/\dn a b/\du a b) (k:∀a,∀b,dn a b->du a b->dK (dJ a b)):dK c:=by
 rcases f with ⟨a,b,rfl,d,e⟩;exact k a b d e
theorem Ie (f:y/\ai/\∃a:h,dm a/\dz a/\dF a) (k:y->ai->∀a,dm a->dz a->dF a->aF):aF:=by
 rcases f with ⟨g,d,a,c,e,b⟩;exact k g d a c e b
theorem oH (f:y/\ai/\∃a:h,∃b:t,dn a b/\du a b) (k:y->ai->∀a,∀b,dn a b->du a b->aF):aF:=by
 rcases f with ⟨g,d,a,b,e,c⟩;exact k g d a b e c
variable {dI:h->t->Prop}
theorem nV (g:∃a:h,∃b:t,dn a b/\du a b/\dD a b/\dI a b) (k:∀a,∀b,dn a b->du a b->dD a b->dI a b->y):y:=by
 rcases g with ⟨a,b,d,e,f,c⟩;exact k a b d e f c
variable {dQ:h->t->Prop}
theorem gp (i:∃a:h,∃b:t,dn a b/\du a b/\dD a b/\dI a b/\dQ a b) (k:∀a,∀b,dn a b->du a b->dD a b->dI a b->dQ a b->y):y:=by
 rcases i with ⟨a,b,d,e,f,c,g⟩;exact k a b d e f c g
variable {aA:Type} {dM:h->t->a9->aA} {dw dC dG:h->t->a9->Prop} {dN:aA->Prop}
@[elab_as_elim] theorem g0 (d:aA) (i:∃a:h,∃b:t,∃c:a9,d=dM a b c/\dw a b c/\dC a b c/\dG a b c) (k:∀a,∀b,∀c,dw a b c->dC a b c->dG a b c->dN (dM a b c)):dN d:=by
 rcases i with ⟨a,b,c,rfl,f,e,g⟩;exact k a b c f e g
variable {ba bl bA:Prop}
theorem OG (h:y/\ai/\aF/\aR/\ba/\bl) (k:y->ai->aF->aR->ba->bl->bA):bA:=by
 rcases h with ⟨f,d,b,c,e,a⟩;exact k f d b c e a
variable {bX:Prop}
theorem Ad (h:y/\ai/\aF/\aR/\ba/\bl/\bA) (k:y->ai->aF->aR->ba->bl->bA->bX):bX:=by
 rcases h with ⟨g,d,b,c,e,a,f⟩;exact k g d b c e a f
theorem Cc {G:Prop} (h:y/\ai/\aF/\aR/\ba/\bl/\bA/\bX) (k:y->ai->aF->aR->ba->bl->bA->bX->G):G:=by
 rcases h with ⟨i,d,b,c,e,a,f,g⟩;exact k i d b c e a f g
theorem C_ {c:Prop} {a:Prop} {b:Prop} {G:Prop} (h:y/\ai/\aF/\aR/\ba/\bl/\bA/\bX/\c/\a/\b) (k:y->ai->aF->aR->ba->bl->bA->bX->c->a->b->G):G:=by
 rcases h with ⟨p,l,j,d,f,i,g,o,n,m,e⟩;exact k p l j d f i g o n m e
@[elab_as_elim] theorem G4 (a:h) (j:y/\ai/\aF/\aR/\ba/\bl/\bA/\bX/\a=dp) (k:y->ai->aF->aR->ba->bl->bA->bX->dm dp):dm a:=by
 rcases j with ⟨i,e,c,d,f,b,g,l,rfl⟩;exact k i e c d f b g l
@[elab_as_elim] theorem y4 (c:a9) (g:y/\ai/\aF/\aR/\ba/\bl/\bA/\∃b:h,∃a:t,c=dJ b a) (k:y->ai->aF->aR->ba->bl->bA->∀b,∀a,dK (dJ b a)):dK c:=by
 rcases g with ⟨m,l,j,d,e,i,f,b,a,rfl⟩;exact k m l j d e i f b a
theorem Lh (e:y/\ai/\aF/\∃a:h,dm a) (k:y->ai->aF->∀a,dm a->aR):aR:=by
 rcases e with ⟨f,c,b,a,d⟩;exact k f c b a d
theorem Li (g:y/\∃a:h,dm a/\dz a/\dF a/\∃b:t,dn a b) (k:y->∀a,dm a->dz a->dF a->∀b,dn a b->ai):ai:=by
 rcases g with ⟨i,a,c,d,e,b,f⟩;exact k i a c d e b f
theorem Q4 (e:y/\∃a:h,∃b:t,∃c:a9,dw a b c) (k:y->∀a,∀b,∀c,dw a b c->ai):ai:=by
 rcases e with ⟨f,a,b,c,d⟩;exact k f a b c d
@[elab_as_elim] theorem S5 (b:t) (e:y/\∃a:h,b=dA a/\dm a) (k:y->∀a,dm a->dB (dA a)):dB b:=by
 rcases e with ⟨d,a,rfl,c⟩;exact k d a c
theorem OH (g:∃a:h,dm a/\dz a/\dF a/\∃b:t,dn a b) (k:∀a,dm a->dz a->dF a->∀b,dn a b->y):y:=by
 rcases g with ⟨a,f,d,e,b,c⟩;exact k a f d e b c
theorem Ig (e:∃a:h,∃b:t,∃c:a9,dw a b c) (k:∀a,∀b,∀c,dw a b c->y):y:=by
 rcases e with ⟨a,b,c,d⟩;exact k a b c d
variable {dH:h->t->a9->aA->Prop}
theorem G5 (f:∃a:h,∃b:t,∃c:a9,∃d:aA,dH a b c d) (k:∀a,∀b,∀c,∀d,dH a b c d->y):y:=by
 rcases f with ⟨a,b,c,d,e⟩;exact k a b c d e
variable {aY:Type} {dO:h->t->a9->aA->aY->Prop}
theorem zR (g:∃a:h,∃b:t,∃c:a9,∃d:aA,∃e:aY,dO a b c d e) (k:∀a,∀b,∀c,∀d,∀e,dO a b c d e->y):y:=by
 rcases g with ⟨a,b,c,d,e,f⟩;exact k a b c d e f
variable {bY:Type}
theorem EI {g:h->t->a9->aA->aY->bY->Prop} (j:∃a:h,∃b:t,∃d:a9,∃e:aA,∃f:aY,∃c:bY,g a b d e f c) (k:∀a,∀b,∀d,∀e,∀f,∀c,g a b d e f c->y):y:=by
 rcases j with ⟨a,b,d,e,f,c,i⟩;exact k a b d e f c i
theorem Jz {j:Type} {i:h->t->a9->aA->aY->bY->j->Prop} (l:∃a:h,∃b:t,∃d:a9,∃e:aA,∃g:aY,∃c:bY,∃f:j,i a b d e g c f) (k:∀a,∀b,∀d,∀e,∀g,∀c,∀f,i a b d e g c f->y):y:=by
 rcases l with ⟨a,b,d,e,g,c,f,m⟩;exact k a b d e g c f m
@[elab_as_elim] theorem Q5 (d:aA) (f:∃a:h,∃b:t,∃c:a9,d=dM a b c/\dw a b c) (k:∀a,∀b,∀c,dw a b c->dN (dM a b c)):dN d:=by
 rcases f with ⟨a,b,c,rfl,e⟩;exact k a b c e
theorem Dd (e:y) (c:ai) (a:aF) (b:aR) (d:ba):y/\ai/\aF/\aR/\ba:=⟨e,c,a,b,d⟩
theorem uq (g:y) (d:ai) (b:aF) (c:aR) (e:ba) (a:bl) (f:bA):y/\ai/\aF/\aR/\ba/\bl/\bA:=⟨g,d,b,c,e,a,f⟩
theorem Cd (h:y) (d:ai) (b:aF) (c:aR) (e:ba) (a:bl) (f:bA) (g:bX):y/\ai/\aF/\aR/\ba/\bl/\bA/\bX:=⟨h,d,b,c,e,a,f,g⟩
theorem Lj (e:y) (a:h) (b:t) (c:a9) (d:dw a b c):y/\∃a:h,∃b:t,∃c:a9,dw a b c:=⟨e,a,b,c,d⟩
theorem OI (a:h) (b:t) (c:dn a b):∃a:h,∃b:t,dn a b:=⟨a,b,c⟩
theorem De (a:h) (b:t) (c:a9) (d:aA) (e:dH a b c d):∃a:h,∃b:t,∃c:a9,∃d:aA,dH a b c d:=⟨a,b,c,d,e⟩
theorem ur {g:h->t->a9->aA->aY->bY->Prop} (a:h) (b:t) (d:a9) (e:aA) (f:aY) (c:bY) (i:g a b d e f c):∃a:h,∃b:t,∃d:a9,∃e:aA,∃f:aY,∃c:bY,g a b d e f c:=⟨a,b,d,e,f,c,i⟩
theorem oJ (a:h) (b:dm a):∃a:h,dm a:=⟨a,b⟩
theorem iz (c:y) (b:ai) (a:aF):y/\ai/\aF:=⟨c,b,a⟩
theorem ei (a:h) (c:dm a) (b:dz a):∃a:h,dm a/\dz a:=⟨a,c,b⟩
theorem uu (d:y) (c:ai) (a:aF) (b:aR):y/\ai/\aF/\aR:=⟨d,c,a,b⟩
theorem tP (d:y) (a:h) (b:dm a) (c:dz a):y/\∃a:h,dm a/\dz a:=⟨d,a,b,c⟩
theorem gq (a:h) (d:dm a) (b:dz a) (c:dF a):∃a:h,dm a/\dz a/\dF a:=⟨a,d,b,c⟩
theorem nA (a:h) (b:t) (c:dn a b) (d:du a b):∃a:h,∃b:t,dn a b/\du a b:=⟨a,b,c,d⟩
theorem qB (a:h) (b:t) (c:a9) (d:dw a b c):∃a:h,∃b:t,∃c:a9,dw a b c:=⟨a,b,c,d⟩
theorem qU (e:y) (c:ai) (a:h) (b:t) (d:dn a b):y/\ai/\∃a:h,∃b:t,dn a b:=⟨e,c,a,b,d⟩
theorem Df (e:y) (a:h) (b:t) (c:dn a b) (d:du a b):y/\∃a:h,∃b:t,dn a b/\du a b:=⟨e,a,b,c,d⟩
variable {dR:h->Prop}
theorem qV (a:h) (d:dm a) (b:dz a) (c:dF a) (e:dR a):∃a:h,dm a/\dz a/\dF a/\dR a:=⟨a,d,b,c,e⟩
theorem sZ (a:h) (d:dm a) (c:dz a) (b:t) (e:dn a b):∃a:h,dm a/\dz a/\∃b:t,dn a b:=⟨a,d,c,b,e⟩
theorem Dg (a:h) (d:dm a) (b:t) (c:dn a b) (e:du a b):∃a:h,dm a/\∃b:t,dn a b/\du a b:=⟨a,d,b,c,e⟩
theorem nr (a:h) (b:t) (c:dn a b) (d:du a b) (e:dD a b):∃a:h,∃b:t,dn a b/\du a b/\dD a b:=⟨a,b,c,d,e⟩
theorem wR (f:y) (e:ai) (d:aF) (a:h) (b:t) (c:dn a b):y/\ai/\aF/\∃a:h,∃b:t,dn a b:=⟨f,e,d,a,b,c⟩
theorem rI (f:y) (d:ai) (a:h) (b:t) (e:dn a b) (c:du a b):y/\ai/\∃a:h,∃b:t,dn a b/\du a b:=⟨f,d,a,b,e,c⟩
theorem vb (f:y) (e:ai) (a:h) (b:t) (c:a9) (d:dw a b c):y/\ai/\∃a:h,∃b:t,∃c:a9,dw a b c:=⟨f,e,a,b,c,d⟩
theorem wU (f:y) (a:h) (c:dm a) (d:dz a) (e:dF a) (b:dR a):y/\∃a:h,dm a/\dz a/\dF a/\dR a:=⟨f,a,c,d,e,b⟩
theorem nW (f:y) (a:h) (b:t) (d:dn a b) (e:du a b) (c:dD a b):y/\∃a:h,∃b:t,dn a b/\du a b/\dD a b:=⟨f,a,b,d,e,c⟩
theorem Dh (f:y) (a:h) (b:t) (c:a9) (e:dw a b c) (d:dC a b c):y/\∃a:h,∃b:t,∃c:a9,dw a b c/\dC a b c:=⟨f,a,b,c,e,d⟩
theorem pf (a:h) (b:t) (d:dn a b) (e:du a b) (f:dD a b) (c:dI a b):∃a:h,∃b:t,dn a b/\du a b/\dD a b/\dI a b:=⟨a,b,d,e,f,c⟩
theorem uw (g:y) (e:ai) (b:h) (c:t) (d:a9) (a:aA) (f:dH b c d a):y/\ai/\∃b:h,∃c:t,∃d:a9,∃a:aA,dH b c d a:=⟨g,e,b,c,d,a,f⟩
variable {dS:h->t->a9->aA->Prop}
theorem wV (g:y) (a:h) (b:t) (c:a9) (d:aA) (e:dH a b c d) (f:dS a b c d):y/\∃a:h,∃b:t,∃c:a9,∃d:aA,dH a b c d/\dS a b c d:=⟨g,a,b,c,d,e,f⟩
theorem EJ (g:y) (a:h) (c:t) (d:a9) (e:aA) (b:aY) (f:dO a c d e b):y/\∃a:h,∃c:t,∃d:a9,∃e:aA,∃b:aY,dO a c d e b:=⟨g,a,c,d,e,b,f⟩
theorem qW (a:h) (b:t) (d:dn a b) (e:du a b) (f:dD a b) (c:dI a b) (g:dQ a b):∃a:h,∃b:t,dn a b/\du a b/\dD a b/\dI a b/\dQ a b:=⟨a,b,d,e,f,c,g⟩
variable {dP:h->t->a9->Prop}
theorem sx (a:h) (b:t) (c:a9) (e:dw a b c) (f:dC a b c) (d:dG a b c) (g:dP a b c):∃a:h,∃b:t,∃c:a9,dw a b c/\dC a b c/\dG a b c/\dP a b c:=⟨a,b,c,e,f,d,g⟩
variable {dY:h->t->Prop}
theorem nX (a:h) (b:t) (d:dn a b) (e:du a b) (f:dD a b) (c:dI a b) (g:dQ a b) (i:dY a b):∃a:h,∃b:t,dn a b/\du a b/\dD a b/\dI a b/\dQ a b/\dY a b:=⟨a,b,d,e,f,c,g,i⟩
variable {dX:h->t->a9->Prop}
theorem gB (a:h) (b:t) (c:a9) (e:dw a b c) (f:dC a b c) (d:dG a b c) (g:dP a b c) (i:dX a b c):∃a:h,∃b:t,∃c:a9,dw a b c/\dC a b c/\dG a b c/\dP a b c/\dX a b c:=⟨a,b,c,e,f,d,g,i⟩
variable {dZ:h->t->a9->aA->Prop}
theorem vd {e:h->t->a9->aA->Prop} (a:h) (b:t) (c:a9) (d:aA) (g:dH a b c d) (f:dS a b c d) (i:dZ a b c d) (j:e a b c d):∃a:h,∃b:t,∃c:a9,∃d:aA,dH a b c d/\dS a b c d/\dZ a b c d/\e a b c d:=⟨a,b,c,d,g,f,i,j⟩
@[elab_as_elim] theorem Va (a:h) (b:y/\a=dp) (k:y->dm dp):dm a:=by
 rcases b with ⟨c,rfl⟩;exact k c
@[elab_as_elim] theorem S6 (a:h) (c:y/\ai/\a=dp) (k:y->ai->dm dp):dm a:=by
 rcases c with ⟨d,b,rfl⟩;exact k d b
theorem qX (d:∃a:h,∃b:t,dn a b) (k:∀a,∀b,dn a b->y):y:=by
 rcases d with ⟨a,b,c⟩;exact k a b c
@[elab_as_elim] theorem Lk (c:a9) (d:∃a:h,∃b:t,c=dJ a b) (k:∀a,∀b,dK (dJ a b)):dK c:=by
 rcases d with ⟨a,b,rfl⟩;exact k a b
theorem wW (h:y/\ai/\aF/\aR) (k:y->ai->aF->aR->ba):ba:=by
 rcases h with ⟨d,c,a,b⟩;exact k d c a b
@[elab_as_elim] theorem Ll (b:t) (d:y/\ai/\∃a:h,b=dA a) (k:y->ai->∀a,dB (dA a)):dB b:=by
 rcases d with ⟨e,c,a,rfl⟩;exact k e c a
@[elab_as_elim] theorem Qn (b:t) (e:∃a:h,dm a/\dA a=b/\dz a) (k:∀a,dm a->dz a->dB (dA a)):dB b:=by
 rcases e with ⟨a,d,rfl,c⟩;exact k a d c
@[elab_as_elim] theorem Lm (c:a9) (e:∃a:h,∃b:t,c=dJ a b/\dn a b) (k:∀a,∀b,dn a b->dK (dJ a b)):dK c:=by
 rcases e with ⟨a,b,rfl,d⟩;exact k a b d
theorem qk (h:y/\ai/\aF/\aR/\ba) (k:y->ai->aF->aR->ba->bl):bl:=by
 rcases h with ⟨e,c,a,b,d⟩;exact k e c a b d
@[elab_as_elim] theorem Di (b:t) (e:y/\ai/\aF/\∃a:h,b=dA a) (k:y->ai->aF->∀a,dB (dA a)):dB b:=by
 rcases e with ⟨f,d,c,a,rfl⟩;exact k f d c a
theorem Dj (e:y/\ai/\∃a:h,dm a/\dz a) (k:y->ai->∀a,dm a->dz a->aF):aF:=by
 rcases e with ⟨f,c,a,b,d⟩;exact k f c a b d
@[elab_as_elim] theorem rZ (c:a9) (e:y/\ai/\∃a:h,∃b:t,c=dJ a b) (k:y->ai->∀a,∀b,dK (dJ a b)):dK c:=by
 rcases e with ⟨f,d,a,b,rfl⟩;exact k f d a b
@[elab_as_elim] theorem Ln (d:aA) (e:y/\∃a:h,∃b:t,∃c:a9,d=dM a b c) (k:y->∀a,∀b,∀c,dN (dM a b c)):dN d:=by
 rcases e with ⟨f,a,b,c,rfl⟩;exact k f a b c
@[elab_as_elim] theorem G6 (b:t) (f:y/\∃a:h,b=dA a/\dm a/\dz a) (k:y->∀a,dm a->dz a->dB (dA a)):dB b:=by
 rcases f with ⟨e,a,rfl,c,d⟩;exact k e a c d
theorem r5 (f:∃a:h,dm a/\dz a/\dF a/\dR a) (k:∀a,dm a->dz a->dF a->dR a->y):y:=by
 rcases f with ⟨a,d,b,c,e⟩;exact k a d b c e
@[elab_as_elim] theorem Lo (c:a9) (f:∃a:h,∃b:t,dn a b/\du a b/\c=dJ a b) (k:∀a,∀b,dn a b->du a b->dK (dJ a b)):dK c:=by
 rcases f with ⟨a,b,d,e,rfl⟩;exact k a b d e
theorem yb (f:∃a:h,∃b:t,∃c:a9,dw a b c/\dC a b c) (k:∀a,∀b,∀c,dw a b c->dC a b c->y):y:=by
 rcases f with ⟨a,b,c,d,e⟩;exact k a b c d e
@[elab_as_elim] theorem Lq {f:t->a9->aA} {c:t->a9->Prop} {G:h->aA->Prop} (e:h) (d:aA) (i:dp=e/\∃a:t,∃b:a9,d=f a b/\c a b) (k:∀a,∀b,c a b->G dp (f a b)):G e d:=by
 rcases i with ⟨rfl,a,b,rfl,g⟩;exact k a b g
@[elab_as_elim] theorem OJ (b:t) (f:y/\ai/\aF/\aR/\∃a:h,b=dA a) (k:y->ai->aF->aR->∀a,dB (dA a)):dB b:=by
 rcases f with ⟨g,e,c,d,a,rfl⟩;exact k g e c d a
@[elab_as_elim] theorem zS (c:a9) (f:y/\ai/\aF/\∃a:h,∃b:t,c=dJ a b) (k:y->ai->aF->∀a,∀b,dK (dJ a b)):dK c:=by
 rcases f with ⟨g,e,d,a,b,rfl⟩;exact k g e d a b
@[elab_as_elim] theorem ve (d:aA) (f:y/\ai/\∃a:h,∃b:t,∃c:a9,d=dM a b c) (k:y->ai->∀a,∀b,∀c,dN (dM a b c)):dN d:=by
 rcases f with ⟨g,e,a,b,c,rfl⟩;exact k g e a b c
theorem Dk (f:y/\∃a:h,∃b:t,dn a b/\du a b/\dD a b) (k:y->∀a,∀b,dn a b->du a b->dD a b->ai):ai:=by
 rcases f with ⟨g,a,b,d,e,c⟩;exact k g a b d e c
@[elab_as_elim] theorem Ih (d:aA) (f:y/\∃a:h,∃b:t,∃c:a9,d=dM a b c/\dw a b c) (k:y->∀a,∀b,∀c,dw a b c->dN (dM a b c)):dN d:=by
 rcases f with ⟨g,a,b,c,rfl,e⟩;exact k g a b c e
theorem zT {b:h->Prop} (i:∃a:h,dm a/\dz a/\dF a/\dR a/\b a) (k:∀a,dm a->dz a->dF a->dR a->b a->y):y:=by
 rcases i with ⟨a,f,d,e,g,c⟩;exact k a f d e g c
theorem wX (g:∃a:h,∃b:t,∃c:a9,dw a b c/\dC a b c/\dG a b c) (k:∀a,∀b,∀c,dw a b c->dC a b c->dG a b c->y):y:=by
 rcases g with ⟨a,b,c,e,f,d⟩;exact k a b c e f d
@[elab_as_elim] theorem Ii {e:t->Prop} {c:t->Prop} {b:t->Prop} (d:h) (l:d=dp/\∃a:t,dB a/\e a/\c a/\b a) (k:∀a,dB a->e a->c a->b a->dm dp):dm d:=by
 rcases l with ⟨rfl,a,g,i,j,f⟩;exact k a g i j f
@[elab_as_elim] theorem wY {f:h->t->a9->aA->aY} {G:aY->Prop} (e:aY) (i:y/\ai/\∃b:h,∃c:t,∃d:a9,∃a:aA,e=f b c d a) (k:y->ai->∀b,∀c,∀d,∀a,G (f b c d a)):G e:=by
 rcases i with ⟨j,g,b,c,d,a,rfl⟩;exact k j g b c d a
@[elab_as_elim] theorem EK {g:h->t->a9->aA->aY->bY} {G:bY->Prop} (f:bY) (i:y/\∃a:h,∃c:t,∃d:a9,∃e:aA,∃b:aY,f=g a c d e b) (k:y->∀a,∀c,∀d,∀e,∀b,G (g a c d e b)):G f:=by
 rcases i with ⟨j,a,c,d,e,b,rfl⟩;exact k j a c d e b
@[elab_as_elim] theorem sy {f:h->t->a9->aA->aY} {G:aY->Prop} (e:aY) (i:y/\∃a:h,∃b:t,∃c:a9,∃d:aA,e=f a b c d/\dH a b c d) (k:y->∀a,∀b,∀c,∀d,dH a b c d->G (f a b c d)):G e:=by
 rcases i with ⟨j,a,b,c,d,rfl,g⟩;exact k j a b c d g
theorem mW (i:∃a:h,∃b:t,∃c:a9,dw a b c/\dC a b c/\dG a b c/\dP a b c) (k:∀a,∀b,∀c,dw a b c->dC a b c->dG a b c->dP a b c->y):y:=by
 rcases i with ⟨a,b,c,e,f,d,g⟩;exact k a b c e f d g
theorem Ae (i:∃a:h,∃b:t,∃c:a9,∃d:aA,dH a b c d/\dS a b c d/\dZ a b c d) (k:∀a,∀b,∀c,∀d,dH a b c d->dS a b c d->dZ a b c d->y):y:=by
 rcases i with ⟨a,b,c,d,f,e,g⟩;exact k a b c d f e g
variable {e7:h->t->a9->aA->aY->Prop}
theorem Af (i:∃a:h,∃b:t,∃c:a9,∃d:aA,∃e:aY,dO a b c d e/\e7 a b c d e) (k:∀a,∀b,∀c,∀d,∀e,dO a b c d e->e7 a b c d e->y):y:=by
 rcases i with ⟨a,b,c,d,e,f,g⟩;exact k a b c d e f g
@[elab_as_elim] theorem Ce {g:h->t->a9->aA->aY->bY} {G:bY->Prop} (f:bY) (i:y/\∃a:h,∃c:t,∃d:a9,∃e:aA,∃b:aY,f=g a c d e b/\dO a c d e b) (k:y->∀a,∀c,∀d,∀e,∀b,dO a c d e b->G (g a c d e b)):G f:=by
 rcases i with ⟨l,a,c,d,e,b,rfl,j⟩;exact k l a c d e b j
theorem iP (i:∃a:h,∃b:t,dn a b/\du a b/\dD a b/\dI a b/\dQ a b/\dY a b) (k:∀a,∀b,dn a b->du a b->dD a b->dI a b->dQ a b->dY a b->y):y:=by
 rcases i with ⟨a,b,d,e,f,c,g,j⟩;exact k a b d e f c g j
theorem oU (i:∃a:h,∃b:t,∃c:a9,dw a b c/\dC a b c/\dG a b c/\dP a b c/\dX a b c) (k:∀a,∀b,∀c,dw a b c->dC a b c->dG a b c->dP a b c->dX a b c->y):y:=by
 rcases i with ⟨a,b,c,e,f,d,g,j⟩;exact k a b c e f d g j
@[elab_as_elim] theorem Ag (d:aA) (j:y/\ai/\aF/\∃b:h,∃c:t,∃a:a9,dw b c a/\dC b c a/\d=dM b c a) (k:y->ai->aF->∀b,∀c,∀a,dw b c a->dC b c a->dN (dM b c a)):dN d:=by
 rcases j with ⟨i,f,e,b,c,a,g,l,rfl⟩;exact k i f e b c a g l
theorem s_ {d:h->t->a9->Prop} (l:∃a:h,∃b:t,∃c:a9,dw a b c/\dC a b c/\dG a b c/\dP a b c/\dX a b c/\d a b c) (k:∀a,∀b,∀c,dw a b c->dC a b c->dG a b c->dP a b c->dX a b c->d a b c->y):y:=by
 rcases l with ⟨a,b,c,f,g,e,i,m,j⟩;exact k a b c f g e i m j
@[elab_as_elim] theorem EL {d:h->t->a9->Prop} (e:aA) (i:∃a:h,∃b:t,∃c:a9,e=dM a b c/\dw a b c/\dC a b c/\dG a b c/\dP a b c/\dX a b c/\d a b c) (k:∀a,∀b,∀c,dw a b c->dC a b c->dG a b c->dP a b c->dX a b c->d a b c->dN (dM a b c)):dN e:=by
 rcases i with ⟨a,b,c,rfl,f,j,g,n,m,l⟩;exact k a b c f j g n m l
@[elab_as_elim] theorem tQ {l:t->a9->aA->aY->Prop} {m:t->a9->aA->aY->Prop} {j:t->a9->aA->aY->Prop} {e:t->a9->aA->aY->Prop} {i:t->a9->aA->aY->Prop} {n:t->a9->aA->aY->Prop} {f:t->a9->aA->aY->Prop} {g:t->a9->aA->aY->Prop} (o:h) (r:y/\o=dp/\∃c:t,∃a:a9,∃b:aA,∃d:aY,l c a b d/\m c a b d/\j c a b d/\e c a b d/\i c a b d/\n c a b d/\f c a b d/\g c a b d) (k:y->∀c,∀a,∀b,∀d,l c a b d->m c a b d->j c a b d->e c a b d->i c a b d->n c a b d->f c a b d->g c a b d->dm dp):dm o:=by
 rcases r with ⟨A,rfl,c,a,b,d,q,z,x,w,p,s,v,u⟩;exact k A c a b d q z x w p s v u
theorem Q6 (c:y/\∃a:h,dm a) (k:y->∀a,dm a->ai):ai:=by
 rcases c with ⟨d,a,b⟩;exact k d a b
theorem S7 (d:y/\ai/\∃a:h,dm a) (k:y->ai->∀a,dm a->aF):aF:=by
 rcases d with ⟨e,c,a,b⟩;exact k e c a b
theorem S8 (d:y/\∃a:h,dm a/\dz a) (k:y->∀a,dm a->dz a->ai):ai:=by
 rcases d with ⟨e,a,b,c⟩;exact k e a b c
theorem Lr (e:y/\∃a:h,dm a/\dz a/\dF a) (k:y->∀a,dm a->dz a->dF a->ai):ai:=by
 rcases e with ⟨f,a,b,c,d⟩;exact k f a b c d
theorem Q7 (e:y/\∃a:h,∃b:t,dn a b/\du a b) (k:y->∀a,∀b,dn a b->du a b->ai):ai:=by
 rcases e with ⟨f,a,b,c,d⟩;exact k f a b c d
theorem Ls (f:∃a:h,dm a/\∃b:t,∃c:a9,dw a b c) (k:∀a,dm a->∀b,∀c,dw a b c->y):y:=by
 rcases f with ⟨a,d,b,c,e⟩;exact k a d b c e
theorem OK (f:y/\∃a:h,dm a/\dz a/\dF a/\dR a) (k:y->∀a,dm a->dz a->dF a->dR a->ai):ai:=by
 rcases f with ⟨g,a,c,d,e,b⟩;exact k g a c d e b
theorem wZ (g:∃a:h,∃b:t,∃c:a9,∃d:aA,dH a b c d/\dS a b c d) (k:∀a,∀b,∀c,∀d,dH a b c d->dS a b c d->y):y:=by
 rcases g with ⟨a,b,c,d,f,e⟩;exact k a b c d f e
theorem EM (g:y/\∃a:h,∃b:t,∃c:a9,dw a b c/\dC a b c/\dG a b c) (k:y->∀a,∀b,∀c,dw a b c->dC a b c->dG a b c->ai):ai:=by
 rcases g with ⟨i,a,b,c,e,d,f⟩;exact k i a b c e d f
theorem yc {e:h->t->a9->aA->Prop} (j:∃a:h,∃b:t,∃c:a9,∃d:aA,dH a b c d/\dS a b c d/\dZ a b c d/\e a b c d) (k:∀a,∀b,∀c,∀d,dH a b c d->dS a b c d->dZ a b c d->e a b c d->y):y:=by
 rcases j with ⟨a,b,c,d,g,f,i,l⟩;exact k a b c d g f i l
theorem Ah {c:h->t->Prop} (l:∃a:h,∃b:t,dn a b/\du a b/\dD a b/\dI a b/\dQ a b/\dY a b/\c a b) (k:∀a,∀b,dn a b->du a b->dD a b->dI a b->dQ a b->dY a b->c a b->y):y:=by
 rcases l with ⟨a,b,e,f,g,d,i,m,j⟩;exact k a b e f g d i m j
theorem EN (l:∃a:h,∃b:t,dn a b/\du a b/\dD a b/\dI a b/\∃c:a9,dw a b c/\dC a b c/\dG a b c) (k:∀a,∀b,dn a b->du a b->dD a b->dI a b->∀c,dw a b c->dC a b c->dG a b c->y):y:=by
 rcases l with ⟨a,b,e,f,g,d,c,m,j,i⟩;exact k a b e f g d c m j i
theorem Dl {j:h->t->a9->aA->aY->Prop} {i:h->t->a9->aA->aY->Prop} {f:h->t->a9->aA->aY->Prop} {g:h->t->a9->aA->aY->Prop} (n:∃c:h,∃d:t,∃e:a9,∃a:aA,∃b:aY,dO c d e a b/\e7 c d e a b/\j c d e a b/\i c d e a b/\f c d e a b/\g c d e a b) (k:∀c,∀d,∀e,∀a,∀b,dO c d e a b->e7 c d e a b->j c d e a b->i c d e a b->f c d e a b->g c d e a b->y):y:=by
 rcases n with ⟨c,d,e,a,b,o,m,r,q,p,l⟩;exact k c d e a b o m r q p l
theorem Ai {l:h->t->a9->aA->aY->Prop} {j:h->t->a9->aA->aY->Prop} {f:h->t->a9->aA->aY->Prop} {i:h->t->a9->aA->aY->Prop} {m:h->t->a9->aA->aY->Prop} {g:h->t->a9->aA->aY->Prop} (p:∃c:h,∃d:t,∃e:a9,∃a:aA,∃b:aY,dO c d e a b/\e7 c d e a b/\l c d e a b/\j c d e a b/\f c d e a b/\i c d e a b/\m c d e a b/\g c d e a b) (k:∀c,∀d,∀e,∀a,∀b,dO c d e a b->e7 c d e a b->l c d e a b->j c d e a b->f c d e a b->i c d e a b->m c d e a b->g c d e a b->y):y:=by
 rcases p with ⟨c,d,e,a,b,r,o,w,v,u,n,q,s⟩;exact k c d e a b r o w v u n q s
@[elab_as_elim] theorem WJ (b:t) (c:∃a:h,dA a=b) (k:∀a,dB (dA a)):dB b:=by
 rcases c with ⟨a,rfl⟩;exact k a
variable {a d o:Nat}
theorem n1 (h:a=d) (l:d<=o):a<=o:=h▸l
theorem S9 (h:a=d) (l:d<o):a<o:=h▸l
theorem EO (l:a<d) (h:o=d):a<o:=h▸l
theorem Vb (l:a<=d) (h:o=d):a<=o:=h▸l
theorem VY (l:a<=d) (h:d=o):a<=o:=h▸l
theorem Of (h:d+1<=a):a=a -1+1:=(pb (a_ (c_ 1 d) h)).symm
theorem UL (h:d+2<=a):a=a -2+2:=(pb (a_ (c_ 2 d) h)).symm
theorem Qo (h:d+o+1<=a+1):o<=a:=a_ (c_ o d) (gY h)
theorem WK (h:d+o+2<=a+2):o<=a:=a_ (c_ o d) (gY (gY h))
theorem ul (k:Nat) (h:a+d<o) (l:sT k d=true):a+k<o:=c4 (d5 (ja l) a) h
variable {I ak aI:Nat}
theorem um (h:a+d<o) (b:I<=aI) (l:sT aI d=true):a+min I ak<o:=c4 (d5 (a_ (g7 _ _) (a_ b (ja l))) a) h
theorem Vc (h:a+d<o) (b:I<=aI) (l:sT (aI+1) d=true):a+1+min I ak<o:=c4 (n1 (fI a 1 _) (d5 (a_ (n1 (eY 1 _) (fg (a_ (g7 I ak) b))) (ja l)) a)) h
theorem VZ (h:a+d<o) (b:ak<=aI) (l:sT (aI+1) d=true):a+1+min I ak<o:=Nat.min_comm I ak▸Vc h b l
theorem sw (h:a+(d+1)<=I) (t:o<=a+1):o+d<=I:=a_ (gz t d) (n1 (gZ a 1 d) h)
theorem bk (b:d<=a) (c:a -d<=o) (h:o<a):o - (a -d)<d:=Nat.sub_lt_left_of_lt_add c ((pb b).symm▸h)
theorem WL (e:a<=o) (b:o<=a+d) (c:I=o):a+(d - (a+d -o))=I:=by
 obtain ⟨x,rfl⟩:=pB e
 obtain ⟨y,rfl⟩:=pB (Nat.le_of_add_le_add_left b)
 rw [Nat.add_sub_add_left,ib,Nat.add_sub_cancel,c]
theorem WM (b:d<=I+o) (c:o<=d) (e:¬a<I):a - (d -o)=I+o -d+(a -I):=by
 obtain ⟨x,rfl⟩:=pB c
 obtain ⟨y,rfl⟩:=pB (mM e)
 rw [ib,ib,eY o x,Nat.add_sub_add_right]
 exact OB (Nat.le_of_add_le_add_right (eY o x▸b))
theorem rm (h:a+I*(d+1)<=o) (l:sT ak I=true):a+ak+I*d<=o:=n1 (gZ a ak _) (a_ (d5 (ja l) _) (n1 (fI a (I*d) I) h))
theorem V0 (u:d=a+aI) (h:a+ak*(o+1)<=I) (l:sT aI ak=true):d+ak*o<=I:=u▸rm h l
theorem WN (b:a+(d - (a+d -o))=o) (c:o=I) (e:ak=a) (f:aI=d):I<=ak+aI:=c▸e▸f▸n1 b.symm (d5 (jQ _ _) a)
theorem u0 (h:a+d+o<I):a<I:=c4 (a_ (eg a d) (eg _ o)) h
theorem u1 (h:a+10*(d+1)+o<I):a+1+10*d+o<I:=
 c4 (gz (n1 (fI a 1 _) (d5 (n1 (eY 1 _) (d5 (by decide:1<=10) _)) a)) o) h
theorem u2 (h:a+10*(d+1)+o<I):a+1+d<I:=c4 (a_ (n1 (fI a 1 d) (d5 (n1 (eY 1 d) (ni _ (by decide))) a)) (eg _ o)) h
theorem u3 (h:a+10*d+o<I):a+d<I:=c4 (a_ (d5 (ni d (by decide)) a) (eg _ o)) h
theorem s5 (h:a+o*d<=I) (b:2<=d) (l:sT ak (o*2)=true):a+ak<=I:=a_ (d5 (a_ (ja l) (gQ o b)) a) h
theorem r3 (h:a+d<=9000):a+800<9900:=c4 (gz (a_ (eg a d) h) 800) (by decide)
theorem r4 (h:a+d<=900):a<1000:=c4 (a_ (eg a d) h) (by decide)
theorem WO (h:a=d+2):a+(o+2*I)=d+o+2*(I+1):=by rw [h,SR,fI,eY 2,fI,fI]
theorem WQ (h:0<a):1+d<=d+2*a:=n1 (eY 1 d) (d5 (a_ h (ni a (by decide))) d)
variable {p aB bZ:Int}
theorem WR (l:p<=aB) (h:aB=bZ):p<=bZ:=h▸l
theorem Dm (h:1<=p/\p<=5):p=1\/p=2\/p=3\/p=4\/p=5:=by
 obtain ⟨n,rfl⟩:=tY (jD (by decide) h.1)
 have a:n<=5:=gR.mp h.2
 rcases n with _ |_ |_ |_ |_ |_ |n
 .exact absurd h.1 (by decide)
 .exact .inl rfl
 .exact .inr (.inl rfl)
 .exact .inr (.inr (.inl rfl))
 .exact .inr (.inr (.inr (.inl rfl)))
 .exact .inr (.inr (.inr (.inr rfl)))
 .exact absurd (a_ (c_ 6 n) a) (by decide)
theorem WS (b:a<d) (h:min (a+1) d=0):False:=absurd ((j3 b).symm.trans h) (tW a)
theorem JA (h:(-1:Int)=a):False:=by injection h
theorem V1 (h:a<2) (c:d<=o) (b:o<a):d=o:=by
 have e:=iZ.mp (eh b (eX h))
 clear h b;subst e
 exact Nat.le_zero.mp c
theorem JB (h:a<=100000):(a:Int)<2 ^ 63:=ya (gR.mpr h) (by decide)
theorem WT (h:a<=100000):¬(a:Int)>=2 ^ 63:=C9.mpr (JB h)
theorem Q8 (h:p.natAbs<=3000000):-2 ^ 63<=p/\p<2 ^ 63:=
 have c:=jD Sh (gR.mpr h)
 have b:=jD (Sh (a:=-p)) (Int.natAbs_neg p▸gR.mpr h)
 ⟨jD (by decide) (BD p▸Int.neg_le_neg b),ya c (by decide)⟩
theorem S_ (h:p.toNat<a) (b:a<=100000):p<2 ^ 63:=ya (Int.self_le_toNat p) (JB (eA (eh h b)))
theorem V2 (b:p.natAbs<=1000000) (a:aB.natAbs<=1000000):(aB -p -1+1).natAbs<=3000000:=n1 (congrArg Ld (nj _ _)) (a_ (Od _ _) (a_ (fO a b) (by decide)))
theorem V3 (h:p<aB):0<=aB -p -1+1:=WR (v7 (zC h)) (nj _ _).symm
theorem V4 (h:¬p<aB):qi 0=(aB -p).toNat:=(Oc.mpr (Int.sub_nonpos_of_le (nq.mp h))).symm
theorem V5:p -aB=p+ -1*aB:=congrArg (p+·) (Int.neg_one_mul aB).symm
theorem WU:p+(aB*bZ+1*bZ)=p+bZ+aB*bZ:=by rw [UK,G3 (aB*bZ),Int.add_assoc]
theorem WV:((a:Int)+d*1).toNat=a+d:=congrArg (λz=>((a:Int)+z).toNat) (Int.mul_one (d:Int))
theorem tn (h:p.toNat=a+1):(p -1).toNat=a:=by
 induction p using Int.casesOn with
 |ofNat n=>cases h;exact congrArg qi (rX (a:Int) 1)
 |negSucc n=>injection h
theorem V6 (d:0<=p) (c:p<=aB) (b:aB.toNat<=a):max 0 (min p a)=p:=(congrArg (max 0) (Qj (jD c (Int.toNat_le.mp b)))).trans (qj d)
theorem Vd (h:0<=p):min p a=((min p.toNat a:Nat):Int):=by
 obtain ⟨k,rfl⟩:=tY h
 exact (uj k a).elim (λh=>(Qj (gR.mpr h)).trans (congrArg OE (j3 h).symm)) λh=>(Int.min_eq_right (gR.mpr h)).trans (congrArg OE (tX h).symm)
theorem V7 (h:0<=p):max 0 (min p a)=((min p.toNat a:Nat):Int):=by rw [Vd h];exact qj (gC _)
theorem V8 (e:a<=d) (c:d<=o) (b:o+I<=ak):min a o+I+(o -d)<=ak:=a_ (gz (gz (a_ (g7 _ _) e) I) _) (n1 ((gZ d I _).trans (congrArg (·+I) (ru c))) b)
theorem WW (e:a<=d) (c:d<=o) (b:o+I<=ak):min a o -0+I+(min o o -d)<=ak+1:=by rw [GW];exact fY (V8 e c b)
theorem ad (h:a+d<=ak) (b:o=a) (c:I=d):o+I<=ak:=b▸c▸h
theorem UM (h:o=a+(d+1)):a<o:=h▸eh (fG a) (d5 (c_ 1 d) a)
theorem Ve (h:o -I=a+(d+1)):I+a<o:=eY I a▸Nat.add_lt_of_lt_sub (UM h)
theorem WX (h:0<o) (b:a -d=I+1):a - (d+o)<=I:=n1 (QY a d o) (b▸j8 (d5 h I))
theorem WY (b:o<=a -d) (c:0<o):d+o<=a:=eY o d▸Nat.add_le_of_le_sub (eA (N4 (eh c b))) b
theorem WZ (c:o<=a -d) (b:0<o):a - (d+o)<a -d:=S9 (QY a d o) (kf (eh b c) b)
theorem Vf (b:a<4):1+a<=4:=n1 (eY 1 a) b
theorem V9 (b:a+100<100000) (e:d<5) (c:o<10):a+1+7*d+o<100000:=c4 (a_ (fO (d5 (gQ 7 (eX e)) (a+1)) (eX c)) (d5 (by decide:38<=100) a)) b
theorem V' (b:a+100<100000) (c:d<5) (e:o<4):a+1+7*d+1+(1+o)<100000:=
 c4 (fO (gz (d5 (gQ 7 (eX c)) (a+1)) 1) (d5 (eX e) 1)) (c4 (d5 (by decide:34<=100) a) b)
theorem W0 (b:d<4):a+1+(1+d)<=a+6:=d5 (d5 (d5 (eX b) 1) 1:1+(1+d)<=1+(1+3)) a|>n1 (fI a 1 _)|>λh=>fY h
theorem W3 (b:d<4):a+1+(1+d)+1<=a+6:=fg (d5 (Vf b) (a+1))
theorem W4 (b:d<6):a+1+7*d<=a+36:=d5 (gQ 7 (eX b)) (a+1)
theorem y3 (b:a+d<o) (c:I<d):a+(1+I)<o:=c4 (d5 (n1 (eY 1 I) c) a) b
theorem y5:a+d+1=a+(1+d):=congrArg (a+·) (eY d 1)
theorem W5:((a:Int) -d -1+1).toNat=a -d:=(congrArg qi (nj _ 1)).trans (EG a d)
theorem W6 (h:¬(a:Int)>d):qi 0=a -d:=(vB (gR.mp (nq.mp h))).symm
theorem cs (h:d<a):(a:Int) -1 -d=((a - (d+1):Nat):Int):=(Int.sub_sub ..).trans ((congrArg ((a:Int) - ·) (G3 1 d)).trans (Sg h).symm)
theorem Vg (h:d<a):((a:Int) -1+ -1*d).toNat=a -1 -d:=(congrArg qi (V5.symm.trans (cs h))).trans ((congrArg (a - ·) (eY d 1)).trans (UD a 1 d).symm)
theorem z0 (h:¬(a:Int) -1> -1):a=0:=by
 rcases a with _ |a
 .rfl
 .exact absurd (Le (by decide) (jD (gC a) (S3 (rX (a:Int) 1).symm))) h
theorem ka (b:¬0<=p):p+a=(a:Int) - (p.natAbs:Int):=by
 rw [C8 (zC (C9.mp b)),Jx,G3]
theorem kb (b:¬0<=p):a -p.natAbs=(p+a).toNat:=(EG a p.natAbs).symm.trans (congrArg qi (ka b).symm)
theorem kc (b:¬0<=p) (c:p.natAbs<=a):0<=p+a/\p+a<a:=⟨ka b▸v7 (gR.mpr c),Le (Int.add_lt_add_right (C9.mp b) (a:Int)) (S3 (Int.zero_add _))⟩
theorem kd (c:¬0<=p) (b:p.natAbs<=a):-(a:Int)<=p:=Int.le_of_sub_nonneg ((Jx p a).symm▸(kc c b).1)
theorem Ta (b:a<5):1<=1+(a:Int)/\1+(a:Int)<=5:=⟨Int.le_add_of_nonneg_right (gC a),Int.add_le_add_left (gR.mpr (eX b)) 1⟩
theorem W7:((a:Int) -1 - -1).toNat=a:=congrArg qi ((Jx _ _).trans (nj (a:Int) 1))
theorem Sj (h:a<=1000):((a:Int) -1).natAbs<=1000000:=a_ (Od _ _) (a_ (gz h 1) (by decide))
theorem W8 (b:a+2<=d):¬(d:Int) -a<2:=nq.mpr (Int.le_sub_left_of_add_le (gR.mpr b))
theorem W9 (h:a<d) (b:d<=o) (e:min (d -a) (o -a)=0):False:=oy (Nat.lt_min.mpr ⟨iX h,iX (eh h b)⟩) e
theorem Vh:((1+a:Nat):Int) -1=a:=(congrArg (λz:Nat=>(z:Int) -1) (eY 1 a)).trans (rX (a:Int) 1)
theorem W' (c:¬d<a) (b:¬d=a):d=a+(d -a -1+1):=by
 have h:=nh (iY.mp c) (nz b)
 rw [pb (iX h),ru (eA h)]
theorem W_:a+d+1+o=a+(o+1)+d:=(fI (a+d) 1 o).trans ((congrArg (a+d+·) (eY 1 o)).trans (gZ a d (o+1)))
theorem Xa (h:a+d<o):min a o+(o - (a+d+1)+1)=o -d:=by
 obtain ⟨x,rfl⟩:=Nat.exists_eq_add_of_lt h
 rw [j3 (a_ (eg a d) (eA h)),gZ _ x 1,ib,fI a d 1,Nat.add_left_comm a d,fI d,ib,eY x 1,fI a 1 x]
theorem Vi (h:((a+d:Nat):Int)=((a+0:Nat):Int)):d=0:=Nat.add_left_cancel (rB h)
theorem Vj (c:¬d<a) (b:¬d=a):d+o≠a:=oy (eh (nh (iY.mp c) (nz b)) (eg d o))
theorem Xb (b:a<o) (h:d<=o - (a+1)):a+d<o:=n1 (Nat.succ_add a d).symm (H_ b h)
theorem Xc:((a+d+1:Nat):Int) -d=((a+1:Nat):Int):=(congrArg (λz:Nat=>(z:Int) -d) (gZ a d 1)).trans (rX ((a+1:Nat):Int) d)
theorem Vk (e:d=a+(o -I)) (h:a<d):I<o:=N4 (Nat.lt_of_add_lt_add_left (n:=a) (e▸h))
theorem Vl (e:d=a+(o -I)) (h:¬a<d):o -I=0:=Nat.eq_zero_of_not_pos λq=>h (e▸gj q)
theorem Xd (c:a<10000) (b:d<8):a+1+d<100000:=gF (Nat.add_lt_add (qE c 1) b) (by decide)
theorem Xe (b:d<8):a+1+d<=a+9:=a_ (d5 (eA b) (a+1)) (eJ _)
theorem Xf (c:d<=9*o) (b:a<=4):2*a+1+d<=9*(o+1):=a_ (fO (gz (gQ 2 b) 1) c) (gu (eY _ _))
variable {bc:Nat}
theorem Vm (e:a<=I) (b:d+(o+1)<=aI) (f:aI<=ak) (c:bc+(I+(1+ak))<1001):a+d<100000:=
 c4 (fO e (a_ (a_ (eg d (o+1)) b) (a_ f (c_ ak 1)))) (c4 (c_ _ bc) (gF c (by decide)))
theorem Xg (e:a+1<=1+o) (c:o<=I) (b:I<1000) (f:d<=1000):a+d<100000:=
 c4 (fO (a_ (gY (VY e (eY 1 o))) c) f) (gF (qE b 1000) (by decide))
theorem Lu [Decidable y] {k:h} (a:(if y then some dp else none)=some k):y/\dp=k:=
 if q:y then ⟨q,d3 ((if_pos q).symm.trans a)⟩ else absurd ((if_neg q).symm.trans a) (λx=>noConfusion_of_Nat N2 x)
theorem V_ [Decidable y] {k:h} (a:(if y then none else some dp)=some k):¬y/\dp=k:=
 if q:y then absurd ((if_pos q).symm.trans a) (λx=>noConfusion_of_Nat N2 x) else ⟨q,d3 ((if_neg q).symm.trans a)⟩
local macro_rules
|`(tactic|rw [$rs,*] $[at $h:ident]?)=>do
 let ts ←rs.getElems.mapM fun r=>do
  let t:Lean.Term:=⟨r.raw[1]⟩
  let e:=r.raw[0].isNone
  match h with
  |none=>
   let f:=Lean.mkIdent (if e then `Mine.WH else `Mine.WI)
   `(tactic|first |refine $f:ident ($t ..) ?_ |rewrite [$r])
  |some h=>
   let t ←if e then `($t ..) else `(Eq.symm ($t ..))
   `(tactic|first |replace $h :=$t▸$h |rewrite [$r] at $h:ident)
 `(tactic|($[$ts]*;try (with_reducible rfl)))
variable {l af:AV} {aS:List (Nat×AV)}
section
set_option genInjectivity true in
inductive AV where
 |none |bool (b:Bool) |int (i:Int) |str (s:List Nat)
 |tup (xs:List AV) |ref (a:Nat) |pT (lo hi st:Int) |fn (n:Nat) |cls (n:Nat) |bi (n:Nat) |BM (xs:List Int)
 deriving Inhabited
set_option genInjectivity true in
inductive AO where
 |list (xs:List AV)
 |dict (kvs:List (AV×AV))
 |inst (c:Nat) (dx:Nat) (fs:List (Nat×AV))
noncomputable abbrev AS:=Nat->Option AO
noncomputable abbrev MM:=List (Option AV)
noncomputable def AS.set (st:AS) (a:Nat) (o:AO):AS:=λb=>if b=a then some o else st b
noncomputable def AS.le (st st':AS):Prop:=∀a o,st a=some o->st' a=some o
noncomputable def AS.free (st:AS) (a:Nat):Prop:=st a=none/\∀b c fs,st b≠some (.inst c a fs)
inductive Sk where |add |sub |mul |mod |fdiv |band
inductive Og where |eq |ne |lt |le |gt |ge |Tb |Cf |Sl |Tc
mutual
inductive CE where
 |var (i:Nat)
 |cst (v:AV)
 |tup (es:w0)
 |lst (es:w0)
 |bin (o:Sk) (a b:CE)
 |neg (a:CE)
 |not (a:CE)
 |and (a b:CE)
 |or (a b:CE)
 |cmp (a:CE) (o:Og) (b:CE)
 |EP (a:CE) (o:Og) (b:CE) (p:Og) (c:CE)
 |ite (c a b:CE)
 |attr (e:CE) (x:Nat)
 |sub (e i:CE)
 |tZ (e lo hi:CE)
 |rev (e:CE)
 |call (f:CE) (es:w0)
 |fL (o:CE) (x:Nat) (es:w0)
 |comp (caps:List (Option Nat)) (elt:CE) (tgt:List Nat) (iter:CE) (conds:w0) (rest:Gens)
 |dict (es:w0)
 |ER (e:CE) (body:CE)
inductive w0 where
 |nil
 |cons (e:CE) (r:w0)
inductive Gens where
 |nil
 |cons (tgt:List Nat) (iter:CE) (conds:w0) (rest:Gens)
end
mutual
inductive CS where
 |asg (i:Nat) (e:CE)
 |ta (is:List Nat) (e:CE)
 |iA (o:CE) (x:Nat) (e:CE)
 |ES (o:CE) (x:Nat) (o':CE) (x':Nat) (e:CE)
 |t7 (o i e:CE)
 |Lv (o lo hi e:CE)
 |ex (e:CE)
 |ret (e:CE)
 |iff (c:CE) (a b:w')
 |ET (c:CE) (b:w')
 |kg (tgt:List Nat) (e:CE) (b:w')
 |brk
inductive w' where
 |nil
 |cons (s:CS) (r:w')
end
inductive Fl where |next |brk |ret (v:AV)
inductive jk:Nat->AV->Prop where
 |int (n:Nat) (i:Int):jk n (.int i)
 |str (n:Nat) (s:List Nat):(∀c∈s,c<128)->jk n (.str s)
 |tup (n:Nat) (xs:List AV):(∀x∈xs,jk n x)->jk (n+1) (.tup xs)
noncomputable abbrev Plain (v:AV):Prop:=jk 6 v
inductive oN:Nat->AV->Prop where
 |int (n:Nat) (i:Int):oN n (.int i)
 |tup (n:Nat) (xs:List AV):(∀x∈xs,oN n x)->oN (n+1) (.tup xs)
noncomputable def Lw (k:AV):Prop:=(∃xs,k= .tup xs)/\oN 4 k
noncomputable def IntKeys (kvs:List (AV×AV)):Prop:=∀p∈kvs,∃i,p.1= .int i
noncomputable def tc (k:AV) (kvs:List (AV×AV)):Prop:=((∃i,k= .int i)/\IntKeys kvs)\/(Lw k/\∀p∈kvs,Lw p.1)
inductive nM (st:AS):AV->Bool->Prop where
 |none:nM st .none false
 |bool (b:Bool):nM st (.bool b) b
 |int (i:Int):nM st (.int i) (decide (i≠0))
 |tup (xs:List AV):nM st (.tup xs) (!xs.isEmpty)
 |list {a:Nat} {xs:List AV} (h:st a=some (.list xs)):nM st (.ref a) (!xs.isEmpty)
inductive Eqv (st:AS):AV->AV->Bool->Prop where
 |bool (a b:Bool):Eqv st (.bool a) (.bool b) (a==b)
 |plain {v w:AV} (hv:Plain v) (hw:Plain w) (b:Bool) (h:b=true↔v=w):Eqv st v w b
 |list {a a':Nat} {xs ys:List AV} (h:st a=some (.list xs)) (h':st a'=some (.list ys)) (hx:∀x∈xs,Plain x) (hy:∀x∈ys,Plain x)
  (b:Bool) (hb:b=true↔xs=ys):Eqv st (.ref a) (.ref a') b
 |Ij {a a':Nat} {kvs:List (AV×AV)} (h:st a=some (.dict kvs)) (hi:IntKeys kvs) (h':st a'=some (.dict [])):Eqv st (.ref a) (.ref a') kvs.isEmpty
 |Ik {a a':Nat} {kvs lvs:List (AV×AV)} (h:st a=some (.dict kvs)) (h':st a'=some (.dict lvs))
  (hk:∀kv∈kvs,∃i r xs,kv=(.int i,.ref r)/\st r=some (.list xs)/\(∀x∈xs,Plain x))
  (hl:∀kv∈lvs,∃i r xs,kv=(.int i,.ref r)/\st r=some (.list xs)/\(∀x∈xs,Plain x))
  (hlen:kvs.length=lvs.length)
  (hall:∀i r xs,(AV.int i,AV.ref r)∈kvs->st r=some (.list xs)->∃r',(AV.int i,AV.ref r')∈lvs/\st r'=some (.list xs)):Eqv st (.ref a) (.ref a') true
inductive Cg (st:AS):AV->AV->Bool->Prop where
 |list {v:AV} {a:Nat} {xs:List AV} (hv:Plain v) (h:st a=some (.list xs)) (hx:∀x∈xs,Plain x) (b:Bool) (hb:b=true↔v∈xs):Cg st v (.ref a) b
 |tup {v:AV} {xs:List AV} (hv:Plain v) (hx:∀x∈xs,Plain x) (b:Bool) (hb:b=true↔v∈xs):Cg st v (.tup xs) b
 |dict {v:AV} {a:Nat} {kvs:List (AV×AV)} (h:st a=some (.dict kvs)) (hv:tc v kvs) (b:Bool) (hb:b=true↔v∈kvs.map (·.1)):Cg st v (.ref a) b
noncomputable def Vn (o:Og) (i j:Int):Option Bool:=match o with
 | .lt=>some (decide (i<j))
 | .le=>some (decide (i<=j))
 | .gt=>some (decide (i>j))
 | .ge=>some (decide (i>=j))
 |_=>none
inductive pV (st:AS) (Q:Bool->Prop):Og->AV->AV->Prop where
 |eq {v w:AV} {b:Bool} (h:Eqv st v w b) (q:Q b):pV st Q .eq v w
 |ne {v w:AV} {b:Bool} (h:Eqv st v w b) (q:Q (!b)):pV st Q .ne v w
 |Tb {v w:AV} {b:Bool} (h:Cg st v w b) (q:Q b):pV st Q .Tb v w
 |Cf {v w:AV} {b:Bool} (h:Cg st v w b) (q:Q (!b)):pV st Q .Cf v w
 |Vo (q:Q true):pV st Q .Sl .none .none
 |Xh {v:AV} (h:v≠.none) (h':∀n,v≠.bi n) (q:Q false):pV st Q .Sl v .none
 |Td (q:Q false):pV st Q .Tc .none .none
 |Te {v:AV} (h:v≠.none) (h':∀n,v≠.bi n) (q:Q true):pV st Q .Tc v .none
 |ord {o:Og} {i j:Int} {b:Bool} (h:Vn o i j=some b) (q:Q b):pV st Q o (.int i) (.int j)
noncomputable def binI (o:Sk) (i j:Int):Option Int:=match o with
 | .add=>some (i+j)
 | .sub=>some (i -j)
 | .mul=>if i.natAbs<2 ^ 60\/j.natAbs<2 ^ 60 then some (i*j) else none
 | .mod=>if j=0 then none else some (i.fmod j)
 | .fdiv=>if j=0\/1000000<=j.natAbs then none else some (i.fdiv j)
 | .band=>if 0<=i/\0<=j then some (OE (i.toNat&&& j.toNat)) else none
noncomputable def fE:Nat:=100000
inductive Aj (st:AS) (Q:AV->AS->Prop):Sk->AV->AV->Prop where
 |int {o:Sk} {i j k:Int} (hb:binI o i j=some k) (h:Q (.int k) st):Aj st Q o (.int i) (.int j)
 |cat {xs ys:List AV} (hl:xs.length+ys.length<=fE) (h:Q (.tup (xs++ys)) st):Aj st Q .add (.tup xs) (.tup ys)
 |app {a b:Nat} {xs ys:List AV} (ha:st a=some (.list xs)) (hb:st b=some (.list ys)) (hl:xs.length+ys.length<=fE) (h:∀c,st.free c->Q (.ref c) (st.set c (.list (xs++ys)))):Aj st Q .add (.ref a) (.ref b)
 |rep {a:Nat} {n:Int} {xs:List AV} (ha:st a=some (.list xs)) (hb:n.natAbs<=fE) (hc:xs.length*n.toNat<=fE) (h:∀c,st.free c->Q (.ref c) (st.set c (.list (gk n.toNat xs).flatten))):Aj st Q .mul (.ref a) (.int n)
noncomputable def itemAt (xs:List AV) (i:Int):Option AV:=if 0<=i then xs[i.toNat]? else if i.natAbs<=xs.length then xs[xs.length -i.natAbs]? else none
inductive zD (st:AS) (Q:AV->AS->Prop):AV->AV->Prop where
 |tup {xs:List AV} {k:Int} {x:AV} (h:itemAt xs k=some x) (q:Q x st):zD st Q (.tup xs) (.int k)
 |list {a:Nat} {xs:List AV} {k:Int} {x:AV} (hs:st a=some (.list xs)) (h:itemAt xs k=some x) (q:Q x st):zD st Q (.ref a) (.int k)
 |dict {a:Nat} {kvs:List (AV×AV)} {i x:AV} (hs:st a=some (.dict kvs)) (hk:tc i kvs) (hx:(i,x)∈kvs) (q:Q x st):zD st Q (.ref a) i
noncomputable def cut (xs:List AV) (lo hi:AV):Option (List AV):=match lo,hi with
 | .none,.none=>some xs
 | .none,.int h=>if 0<=h then some (xs.take h.toNat) else none
 | .int l,.none=>if 0<=l then some (xs.drop l.toNat) else none
 | .int l,.int h=>if 0<=l/\0<=h then some ((xs.take h.toNat).drop l.toNat) else none
 |_,_=>none
inductive G7 (st:AS) (Q:AV->AS->Prop):AV->AV->AV->Prop where
 |tup {xs ys:List AV} {l h:AV} (hc:cut xs l h=some ys) (q:Q (.tup ys) st):G7 st Q (.tup xs) l h
 |list {a:Nat} {xs ys:List AV} {l h:AV} (hs:st a=some (.list xs)) (hc:cut xs l h=some ys) (q:∀c,st.free c->Q (.ref c) (st.set c (.list ys))):G7 st Q (.ref a) l h
 |BM {xs:List Int} {ys:List AV} {l h:AV} (hc:cut (xs.map .int) l h=some ys) (q:∀c,st.free c->Q (.ref c) (st.set c (.list ys))):G7 st Q (.BM xs) l h
inductive OL (st:AS) (Q:AV->AS->Prop):AV->Prop where
 |mk {a:Nat} {xs:List AV} (hs:st a=some (.list xs)) (q:∀c,st.free c->Q (.ref c) (st.set c (.list xs.reverse))):OL st Q (.ref a)
inductive It where
 |list (a:Nat) (xs:List AV)
 |tup
 |dict (a:Nat) (ks:List AV)
 |pT
noncomputable def It.ok (it:It) (st:AS):Prop:=match it with
 | .list a xs=>st a=some (.list xs)
 | .dict a ks=>∃kvs,st a=some (.dict kvs)/\kvs.map (·.1)=ks
 |_=>True
noncomputable def w_ (lo hi st:Int):Option (List AV):=
 if st=1 then some ((eQ (hi -lo).toNat).map λ(k:Nat)=>.int (lo+k))
 else if st= -1 then some ((eQ (lo -hi).toNat).map λ(k:Nat)=>.int (lo -k))
 else none
inductive oh (st:AS) (Q:It->List AV->Prop):AV->Prop where
 |tup {xs:List AV} (q:Q .tup xs):oh st Q (.tup xs)
 |pT {lo hi s:Int} {xs:List AV} (h:w_ lo hi s=some xs) (q:Q .pT xs):oh st Q (.pT lo hi s)
 |list {a:Nat} {xs:List AV} (hs:st a=some (.list xs)) (q:Q (.list a xs) xs):oh st Q (.ref a)
 |dict {a:Nat} {kvs:List (AV×AV)} (hs:st a=some (.dict kvs)) (hi:IntKeys kvs) (q:Q (.dict a (kvs.map (·.1))) (kvs.map (·.1))):oh st Q (.ref a)
noncomputable def jN (tgt:List Nat) (x:AV) (m:MM):Option MM:=match tgt with
 |[i]=>some (m.set i (some x))
 |is=>match x with
  | .tup xs=>if xs.length=is.length then some ((is.zip xs).foldl (λm p=>m.set p.1 (some p.2)) m) else none
  |_=>none
noncomputable def Ci:List (Int×AV)->List AV
 |[]=>[]
 |(k,v)::r=>.int k::v::Ci r
noncomputable def Oh (tgt:List Nat) (m:MM):MM:=tgt.foldl (λm i=>m.set i none) m
inductive Lt:AV->AV->Prop where
 |int {i j:Int} (h:i<j):Lt (.int i) (.int j)
 |tup (p:List AV) (x y:AV) (r s:List AV) (h:Lt x y):Lt (.tup (p++x::r)) (.tup (p++y::s))
 |len (p:List AV) (y:AV) (s:List AV):Lt (.tup p) (.tup (p++y::s))
noncomputable def gV (v w:AV):Prop:=Lt v w\/v=w\/Lt w v
noncomputable def qY (xs:List AV):Prop:=(∀x∈xs,∃i,x= .int i)\/(∀x∈xs,oN 4 x/\∃y ys,x= .tup (y::ys))
noncomputable def iy (fs:List (Nat×AV)) (x:Nat) (v:AV):List (Nat×AV):=match fs with
 |[]=>[(x,v)]
 |(y,u)::r=>if y=x then (y,v)::r else (y,u)::iy r x v
theorem vK:iy ((a,l)::aS) d af=if a=d then (a,af)::aS else (a,l)::iy aS d af:=rfl
open Classical in
noncomputable def dictPut (kvs:List (AV×AV)) (k v:AV):List (AV×AV):=
 if k∈kvs.map (·.1) then kvs.map (λp=>if p.1=k then (k,v) else p) else kvs++[(k,v)]
inductive pg (st:AS) (Q:List AV->Prop):AV->Prop where
 |tup {xs:List AV} (q:Q xs):pg st Q (.tup xs)
 |list {a:Nat} {xs:List AV} (hs:st a=some (.list xs)) (q:Q xs):pg st Q (.ref a)
 |dict {a:Nat} {kvs:List (AV×AV)} (hs:st a=some (.dict kvs)) (hi:IntKeys kvs) (q:Q (kvs.map (·.1))):pg st Q (.ref a)
inductive Cj (st:AS) (Q:List AV->Prop):AV->Prop where
 |mk {a:Nat} {xs:List AV} (hs:st a=some (.list xs)) (q:Q xs):Cj st Q (.ref a)
inductive One (Q:AV->Prop):List AV->Prop where
 |mk {v:AV} (q:Q v):One Q [v]
inductive Vp (Q:AV->AV->Prop):List AV->Prop where
 |mk {v w:AV} (q:Q v w):Vp Q [v,w]
inductive G8 (Q:Int->Prop):AV->Prop where
 |mk {i:Int} (q:Q i):G8 Q (.int i)
inductive OM (st:AS) (Q:List AV->Prop):AV->Prop where
 |tup {xs:List AV} (q:Q xs):OM st Q (.tup xs)
 |list {a:Nat} {xs:List AV} (hs:st a=some (.list xs)) (q:Q xs):OM st Q (.ref a)
noncomputable def Tf (args:List AV) (Q:List Int->Prop):Prop:=∃is:List Int,args=is.map .int/\Q is
inductive JC (Q:Int->Int->Int->Prop):List Int->Prop where
 |one {n:Int} (q:Q 0 n 1):JC Q [n]
 |two {a b:Int} (q:Q a b 1):JC Q [a,b]
 |down {a b:Int} (q:Q a b (-1)):JC Q [a,b,-1]
noncomputable def Il (n:Nat) (args:List AV) (st:AS) (Q:AV->AS->Prop):Prop:=match n with
 |0=>One (pg st λxs=>xs.length<=fE->Q (.int xs.length) st) args
 |1=>One (pg st λxs=>xs.length<6/\qY xs/\(xs.Pairwise λa b=>gV a b)/\
  ∃ys,ys.Perm xs/\(ys.Pairwise λa b=>Lt a b\/a=b)/\∀c,st.free c->Q (.ref c) (st.set c (.list ys))) args
 |2=>One (Cj st λxs=>∃m,(∀x∈xs,∃i,x= .int i/\m<=i)/\AV.int m∈xs/\Q (.int m) st) args
 |3=>Vp (λv w=>G8 (λi=>G8 (λj=>Q (.int (max i j)) st) w) v) args
 |4=>Tf args (JC λa b s=>a.natAbs<=1000000/\b.natAbs<=1000000/\Q (.pT a b s) st)
 |5=>One (Cj st λxs=>Q (.tup xs) st) args
 |6=>One (Cj st λps=>∃kvs:List (AV×AV),ps=kvs.map (λp=>.tup [p.1,p.2])/\(∀p∈kvs,∃i,p.1= .int i)/\
  ∀c,st.free c->Q (.ref c) (st.set c (.dict (kvs.foldl (λd p=>dictPut d p.1 p.2) [])))) args
 |7=>One (Cj st λxs=>∃bs:List Bool,xs=bs.map .bool/\Q (.bool (bs.any id)) st) args
 |8=>One (G8 λi=>Q (.int i.natAbs) st) args
 |9=>One (G8 λi=>Q (.int i) st) args
 |10=>One (OM st λxs=>∀c,st.free c->Q (.ref c) (st.set c (.list xs))) args
 |_=>False
inductive y6 (a:Nat) (xs:List AV) (st:AS) (Q:AV->AS->Prop):Nat->List AV->Prop where
 |app {v:AV} (hl:xs.length<fE) (q:Q .none (st.set a (.list (xs++[v])))):y6 a xs st Q 0 [v]
 |pop {v:AV} (hv:xs.getLast? =some v) (q:Q v (st.set a (.list xs.dropLast))):y6 a xs st Q 3 []
inductive y7 (a:Nat) (kvs:List (AV×AV)) (st:AS) (Q:AV->AS->Prop):Nat->List AV->Prop where
 |Vq {i:Int} (hi:IntKeys kvs) (q:(∃v,(AV.int i,v)∈kvs/\Q v st)\/(AV.int i∉kvs.map (·.1)/\Q .none st)):y7 a kvs st Q 1 [.int i]
 |G9 {i:Int} {d:AV} (hi:IntKeys kvs) (q:(∃v,(AV.int i,v)∈kvs/\Q v st)\/(AV.int i∉kvs.map (·.1)/\Q d st)):y7 a kvs st Q 1 [.int i,d]
 |Tg {i:Int} {d:AV} (hi:IntKeys kvs) (q:(∃v,(AV.int i,v)∈kvs/\Q v st)\/(AV.int i∉kvs.map (·.1)/\kvs.length<fE/\Q d (st.set a (.dict (kvs++[(.int i,d)]))))):y7 a kvs st Q 2 [.int i,d]
structure Qp where
 meths:List (Nat×Nat)
 init:Nat
structure mN where
 params:List Nat
 Im:List AV
 size:Nat
 body:w'
structure UN where
 fns:List mN
 Dn:List Qp
noncomputable abbrev Ak:=AV->List AV->AS->(AV->AS->Prop)->Prop
inductive Qq (st:AS) (x:Nat) (Q:AV->AS->Prop):AV->Prop where
 |mk {a c dx:Nat} {fs:List (Nat×AV)} {u:AV} (hs:st a=some (.inst c dx fs)) (hx:fs.lookup x=some u) (q:Q u st):Qq st x Q (.ref a)
inductive yd (P:UN) (X:Ak) (x:Nat) (st:AS) (E:(List AV->AS->Prop)->Prop) (Q:AV->AS->Prop):AV->Prop where
 |inst {a c dx f:Nat} {fs:List (Nat×AV)} {C:Qp} (hs:st a=some (.inst c dx fs)) (hx:fs.lookup x=none) (hC:P.Dn[c]? =some C) (hf:C.meths.lookup x=some f) (q:E λvs st=>X (.fn f) (.ref a::vs) st Q):yd P X x st E Q (.ref a)
 |list {a:Nat} {xs:List AV} (hs:st a=some (.list xs)) (hx:x=0\/x=3) (q:E λvs st=>∃xs,st a=some (.list xs)/\y6 a xs st Q x vs):yd P X x st E Q (.ref a)
 |dict {a:Nat} {kvs:List (AV×AV)} (hs:st a=some (.dict kvs)) (hx:x=1\/x=2) (q:E λvs st=>∃kvs,st a=some (.dict kvs)/\y7 a kvs st Q x vs):yd P X x st E Q (.ref a)
inductive xa (st:AS) (K:Nat->Nat->Nat->List (Nat×AV)->Prop):AV->Prop where
 |mk {a c dx:Nat} {fs:List (Nat×AV)} (hs:st a=some (.inst c dx fs)) (q:K a c dx fs):xa st K (.ref a)
inductive ON (st:AS) (v:AV) (Q:AS->Prop):AV->AV->Prop where
 |list {a:Nat} {xs:List AV} {j:Int} (hs:st a=some (.list xs)) (h0:0<=j) (hl:j.toNat<xs.length) (q:Q (st.set a (.list (xs.set j.toNat v)))):ON st v Q (.ref a) (.int j)
 |dict {a:Nat} {kvs:List (AV×AV)} {k:AV} (hs:st a=some (.dict kvs)) (hk:tc k kvs) (hl:kvs.length<fE) (q:Q (st.set a (.dict (dictPut kvs k v)))):ON st v Q (.ref a) k
inductive Q9 (st:AS) (Q:AS->Prop):AV->AV->AV->AV->Prop where
 |mk {a b:Nat} {l h:Int} {xs ys:List AV} (ha:st a=some (.list xs)) (hb:st b=some (.list ys)) (hne:a≠b) (h0:0<=l) (h1:l<=h) (h2:h.toNat<=xs.length) (hl:xs.length+ys.length<=fE) (q:Q (st.set a (.list (xs.take l.toNat++ys++xs.drop h.toNat)))):Q9 st Q (.ref a) (.ref b) (.int l) (.int h)
section
variable (P:UN) (X:Ak)
mutual
noncomputable def VE:CE->MM->AS->(AV->AS->Prop)->Prop
 | .var i,m,st,Q=>∃v,m[i]? =some (some v)/\Q v st
 | .cst v,_,st,Q=>Q v st
 | .tup es,m,st,Q=>Io es m st λvs st=>Q (.tup vs) st
 | .lst es,m,st,Q=>Io es m st λvs st=>∀c,st.free c->Q (.ref c) (st.set c (.list vs))
 | .bin o a b,m,st,Q=>VE a m st λv st=>VE b m st λw st=>Aj st Q o v w
 | .neg a,m,st,Q=>VE a m st λv st=>G8 (λi=>Q (.int (-i)) st) v
 | .not a,m,st,Q=>VE a m st λv st=>∃b,nM st v b/\Q (.bool (!b)) st
 | .and a b,m,st,Q=>VE a m st λv st=>∃t,nM st v t/\if t then VE b m st Q else Q v st
 | .or a b,m,st,Q=>VE a m st λv st=>∃t,nM st v t/\if t then Q v st else VE b m st Q
 | .cmp a o b,m,st,Q=>VE a m st λv st=>VE b m st λw st=>pV st (λr=>Q (.bool r) st) o v w
 | .EP a o b p c,m,st,Q=>VE a m st λv st=>VE b m st λw st=>pV st (λr=>
  if r then VE c m st λu st=>pV st (λr=>Q (.bool r) st) p w u else Q (.bool false) st) o v w
 | .ite c a b,m,st,Q=>VT c (VE c) m st λt st=>if t then VE a m st Q else VE b m st Q
 | .attr e x,m,st,Q=>VE e m st λv st=>Qq st x Q v
 | .sub e i,m,st,Q=>VE e m st λv st=>VE i m st λk st=>zD st Q v k
 | .tZ e lo hi,m,st,Q=>VE e m st λv st=>VE lo m st λl st=>VE hi m st λh st=>G7 st Q v l h
 | .rev e,m,st,Q=>VE e m st λv st=>OL st Q v
 | .call f es,m,st,Q=>VE f m st λfv st=>Io es m st λvs st=>X fv vs st Q
 | .fL o x es,m,st,Q=>VE o m st λov st=>yd P X x st (λK=>Io es m st K) Q ov
 | .comp caps elt tgt iter conds rest,m,st,Q=>
  VE iter m st λv st=>oh st (λit xs=>
   xs.foldr (λx k acc st=>it.ok st/\∃m',jN tgt x (caps.map λc=>c.bind λj=>(m[j]?).join)=some m'/\Oi conds m' st λt st=>if t then VG (VE elt) rest m' acc st k else k acc st)
   (λacc st=>it.ok st/\∀c,st.free c->Q (.ref c) (st.set c (.list acc))) [] st) v
 | .dict es,m,st,Q=>Io es m st λvs st=>∃kvs:List (Int×AV),vs=Ci kvs/\(kvs.map (·.1)).Nodup/\∀c,st.free c->Q (.ref c) (st.set c (.dict (kvs.map λp=>(.int p.1,p.2))))
 | .ER e body,m,st,Q=>VE e m st λv st=>pg st (λxs=>xs.length<6/\
  ∃key:AV->AV,(∀x∈xs,∀Q',Q' (key x) st->VE body [some x] st Q')/\qY (xs.map key)/\(xs.Pairwise λa b=>Lt (key a) (key b)\/Lt (key b) (key a))/\
  ∃ys,ys.Perm xs/\(ys.Pairwise λa b=>Lt (key a) (key b))/\∀c,st.free c->Q (.ref c) (st.set c (.list ys))) v
noncomputable def Io:w0->MM->AS->(List AV->AS->Prop)->Prop
 | .nil,_,st,Q=>Q [] st
 | .cons e r,m,st,Q=>VE e m st λv st=>Io r m st λvs st=>Q (v::vs) st
noncomputable def VT:CE->(MM->AS->(AV->AS->Prop)->Prop)->MM->AS->(Bool->AS->Prop)->Prop
 | .not a,_,m,st,Q=>VT a (VE a) m st λb st=>Q (!b) st
 | .and a b,_,m,st,Q=>VT a (VE a) m st λt st=>if t then VT b (VE b) m st Q else Q false st
 | .or a b,_,m,st,Q=>VT a (VE a) m st λt st=>if t then Q true st else VT b (VE b) m st Q
 | .ite c a b,_,m,st,Q=>VT c (VE c) m st λt st=>if t then VT a (VE a) m st Q else VT b (VE b) m st Q
 |_,W,m,st,Q=>W m st λv st=>∃b,nM st v b/\Q b st
noncomputable def Oi:w0->MM->AS->(Bool->AS->Prop)->Prop
 | .nil,_,st,Q=>Q true st
 | .cons e r,m,st,Q=>VT e (VE e) m st λt st=>if t then Oi r m st Q else Q false st
noncomputable def VG (W:MM->AS->(AV->AS->Prop)->Prop):Gens->MM->List AV->AS->(List AV->AS->Prop)->Prop
 | .nil,m,acc,st,K=>W m st λv st=>acc.length<fE/\K (acc++[v]) st
 | .cons tgt iter conds rest,m,acc,st,K=>
  rest= .nil/\VE iter m st λv st=>oh st (λit xs=>
   xs.foldr (λx k acc st=>it.ok st/\∃m',jN tgt x (Oh tgt m)=some m'/\Oi conds m' st λt st=>if t then VG W rest m' acc st k else k acc st)
   (λacc st=>it.ok st/\K acc st) acc st) v
end
mutual
noncomputable def VS:CS->MM->AS->(Fl->MM->AS->Prop)->Prop
 | .asg i e,m,st,Q=>VE P X e m st λv st=>Q .next (m.set i (some v)) st
 | .ta is e,m,st,Q=>VE P X e m st λv st=>∃xs m',v= .tup xs/\jN is (.tup xs) m=some m'/\2<=is.length/\Q .next m' st
 | .iA o x e,m,st,Q=>VE P X e m st λv st=>VE P X o m st λov st=>xa st (λa c dx fs=>Q .next m (st.set a (.inst c dx (iy fs x v)))) ov
 | .ES o x o' x' e,m,st,Q=>VE P X e m st λv st=>∃v1 v2,v= .tup [v1,v2]/\VE P X o m st λov st=>xa st (λa c dx fs=>
  VE P X o' m (st.set a (.inst c dx (iy fs x v1))) λov' st=>xa st (λa' c' dx' fs'=>Q .next m (st.set a' (.inst c' dx' (iy fs' x' v2)))) ov') ov
 | .t7 o i e,m,st,Q=>VE P X e m st λv st=>VE P X o m st λov st=>VE P X i m st λk st=>ON st v (Q .next m) ov k
 | .Lv o lo hi e,m,st,Q=>VE P X e m st λv st=>VE P X o m st λov st=>VE P X lo m st λl st=>VE P X hi m st λh st=>Q9 st (Q .next m) ov v l h
 | .ex e,m,st,Q=>VE P X e m st λ_ st=>Q .next m st
 | .ret e,m,st,Q=>VE P X e m st λv st=>Q (.ret v) m st
 | .iff c a b,m,st,Q=>VT P X c (VE P X c) m st λt st=>if t then jo a m st Q else jo b m st Q
 | .ET c b,m,st,Q=>∃n:Nat,N3 (motive:=λ_=>MM->AS->Prop) (λ_ _=>False)
  (λ_ k m st=>VT P X c (VE P X c) m st λt st=>if t then jo b m st λfl m st=>(match fl with | .next=>k m st | .brk=>Q .next m st | .ret v=>Q (.ret v) m st) else Q .next m st) n m st
 | .kg tgt e b,m,st,Q=>VE P X e m st λv st=>oh st (λit xs=>
  xs.foldr (λx k m st=>it.ok st/\∃m',jN tgt x m=some m'/\jo b m' st λfl m st=>(match fl with | .next=>k m st | .brk=>Q .next m st | .ret v=>Q (.ret v) m st))
  (λm st=>it.ok st/\Q .next m st) m st) v
 | .brk,m,st,Q=>Q .brk m st
noncomputable def jo:w'->MM->AS->(Fl->MM->AS->Prop)->Prop
 | .nil,m,st,Q=>Q .next m st
 | .cons s r,m,st,Q=>VS s m st λfl m st=>(match fl with | .next=>jo r m st Q |fl=>Q fl m st)
end
end
noncomputable def bindArgs (f:mN) (args:List AV):Option MM:=
 let vs:=args++f.Im.drop (args.length+f.Im.length -f.params.length)
 if vs.length=f.params.length/\args.length<=f.params.length then some ((f.params.zip vs).foldl (λm p=>m.set p.1 (some p.2)) (gk f.size none)) else none
noncomputable def y8:Fl->AV
 | .ret v=>v
 |_=>.none
noncomputable def eE (P:UN):Nat->Ak
 |0,_,_,_,_=>False
 |n+1,f,args,st,Q=>match f with
  | .fn k=>2<=n/\∃F m,P.fns[k]? =some F/\bindArgs F args=some m/\jo P (eE P n) F.body m st λfl _ st'=>∃st₂,AS.le st₂ st'/\Q (y8 fl) st₂
  | .cls c=>∃C,P.Dn[c]? =some C/\∀a dx,st.free a->st.free dx->a≠dx->eE P n (.fn C.init) (.ref a::args) (st.set a (.inst c dx [])) λv st'=>v= .none/\Q (.ref a) st'
  | .bi b=>Il b args st Q
  |_=>False
end
open Mine.AS renaming le->eD,set->va
open PySem PySem.W PySem.Calls PyProof.Rows PySem.SeqAt PySem.Spec
variable {ao cB:j7} {e8:List (j7×h)}
variable {bB:List j7}
variable {a0:gc}
variable {v:gm} {az:List gc} {C:List Nat}
section
noncomputable def td:Str:=⟨⟨[95,95,100,101,98,117,103,95,95]⟩⟩
noncomputable def G':Str:=⟨⟨[115,117,112,101,114]⟩⟩
noncomputable def JD:Str:=⟨⟨[107,101,121]⟩⟩
noncomputable def vf:Str:=⟨⟨[115,111,114,116,101,100]⟩⟩
noncomputable def te:Str:=⟨⟨[95,95,99,108,97,115,115,100,105,99,116,95,95]⟩⟩
noncomputable def AT:List Str:=[⟨⟨[97,112,112,101,110,100]⟩⟩,
 ⟨⟨[103,101,116]⟩⟩,
 ⟨⟨[115,101,116,100,101,102,97,117,108,116]⟩⟩,
 ⟨⟨[112,111,112]⟩⟩,
 ⟨⟨[99,108,97,115,115,95,111,102]⟩⟩,
 ⟨⟨[116,111,108,100]⟩⟩,
 ⟨⟨[103,108,121,112,104,115]⟩⟩,
 ⟨⟨[110,101,120,116,95,108,105,103]⟩⟩,
 ⟨⟨[97,100,100]⟩⟩,
 ⟨⟨[115,116,97,116,101,95,99,111,117,110,116]⟩⟩,
 ⟨⟨[115,116,101,112]⟩⟩,
 ⟨⟨[105,115,95,111,112,101,110]⟩⟩,
 ⟨⟨[100,101,99,105,100,101]⟩⟩,
 ⟨⟨[102,101,101,100]⟩⟩,
 ⟨⟨[102,105,110,105,115,104]⟩⟩,
 ⟨⟨[103,108,121,112,104,95,99,108,97,115,115]⟩⟩,
 ⟨⟨[97,116,116,97,99,104,95,99,108,97,115,115]⟩⟩,
 ⟨⟨[105,115,95,105,110,95,115,101,116]⟩⟩,
 ⟨⟨[104,97,115]⟩⟩,
 ⟨⟨[99,111,117,110,116]⟩⟩,
 ⟨⟨[103,108,121,112,104,115,95,111,102]⟩⟩,
 ⟨⟨[99,111,112,105,101,100]⟩⟩,
 ⟨⟨[99,108,117,115,116,101,114,115]⟩⟩,
 ⟨⟨[110,101,120,116,95,115,112,108,105,116]⟩⟩,
 ⟨⟨[108,105,103,95,105,100]⟩⟩,
 ⟨⟨[108,105,103,95,112,97,114,116]⟩⟩,
 ⟨⟨[108,105,103,95,99,111,117,110,116]⟩⟩,
 ⟨⟨[98,117,102,102,101,114]⟩⟩,
 ⟨⟨[114,111,119]⟩⟩,
 ⟨⟨[103,108,121,112,104]⟩⟩,
 ⟨⟨[115,112,108,105,116,95,105,100]⟩⟩,
 ⟨⟨[105,115,95,117,110,115,97,102,101]⟩⟩,
 ⟨⟨[115,116,101,112,115]⟩⟩,
 ⟨⟨[99,108,97,115,115,101,115]⟩⟩,
 ⟨⟨[99,111,100,101]⟩⟩,
 ⟨⟨[99,108,117,115,116,101,114]⟩⟩,
 ⟨⟨[109,97,115,107]⟩⟩,
 ⟨⟨[107,105,110,100]⟩⟩,
 ⟨⟨[120,95,97,100,118,97,110,99,101]⟩⟩,
 ⟨⟨[121,95,97,100,118,97,110,99,101]⟩⟩,
 ⟨⟨[120,95,111,102,102,115,101,116]⟩⟩,
 ⟨⟨[121,95,111,102,102,115,101,116]⟩⟩,
 ⟨⟨[112,97,114,101,110,116]⟩⟩,
 ⟨⟨[98,111,110,100]⟩⟩,
 ⟨⟨[105,115,95,98,97,99,107,119,97,114,100]⟩⟩,
 ⟨⟨[108,97,115,116,95,108,105,103]⟩⟩,
 ⟨⟨[108,97,115,116,95,115,112,108,105,116]⟩⟩,
 ⟨⟨[102,108,97,103]⟩⟩,
 ⟨⟨[109,97,114,107,95,115,101,116]⟩⟩,
 ⟨⟨[116,97,98,108,101,115]⟩⟩,
 ⟨⟨[103,100,101,102]⟩⟩,
 ⟨⟨[108,111,111,107,117,112,115]⟩⟩,
 ⟨⟨[108,111,111,107,117,112]⟩⟩,
 ⟨⟨[100,101,112,116,104]⟩⟩,
 ⟨⟨[115,101,116,115]⟩⟩,
 ⟨⟨[101,110,100,115]⟩⟩,
 ⟨⟨[116,114,105,101]⟩⟩,
 ⟨⟨[104,101,108,100]⟩⟩,
 ⟨⟨[114,111,119,115]⟩⟩,
 ⟨⟨[97,116,116,97,99,104]⟩⟩,
 ⟨⟨[112,111,105,110,116,115]⟩⟩,
 ⟨⟨[99,97,114,101,116,115]⟩⟩]
noncomputable def r6:List j7->j7->Option Nat
 |[],_=>none
 |y::r,x=>if x=y then some 0 else (r6 r x).map (·+1)
noncomputable def h_ {α:Type}:List (j7×α)->j7->Option α
 |[],_=>none
 |(y,v)::r,x=>if x=y then some v else h_ r x
theorem tf:h_ ((ao,dp)::e8) cB=if cB=ao then some dp else h_ e8 cB:=rfl
theorem Ck:r6 (ao::bB) cB=if cB=ao then some 0 else (r6 bB cB).map (·+1):=rfl
@[elab_as_elim] noncomputable def rC {M:gc->Type} (k:Nat) (e:gc) (f:Expr.ctorElimType.{1} (motive_1:=M) k) (g:M e):M e:=if h:k=e.ctorIdx then Expr.ctorElim k e h f else g
noncomputable def EU (e:gc):Option Str:=rC (M:=λ_=>Option j7) 23 e ⟨λx _=>some x⟩ none
theorem Cm (h:EU a0=some ao):∃p,a0= .Name ao p:=by
 rcases a0 with ⟨⟩<;>first |contradiction |skip
 exact oJ _ (congrArg (Expr.Name · _) (d3 h))
noncomputable def isVar:vA->Bool
 | .local=>true
 | .cell=>true
 | .free=>true
 |_=>false
noncomputable def Qr:vA->Bool
 | .local=>true
 | .cell=>true
 |_=>false
noncomputable abbrev gm:=List (j7×vA)
noncomputable def slots (ns:gm):List Str:=(ns.filter λx=>isVar x.2).map (·.1)
noncomputable def Th:Operator->Option Sk
 | .Add=>some .add
 | .Sub=>some .sub
 | .Mult=>some .mul
 | .Mod=>some .mod
 | .FloorDiv=>some .fdiv
 | .BitAnd=>some .band
 |_=>none
noncomputable def zE:Et->Og
 | .Eq=>.eq | .NotEq=>.ne | .Lt=>.lt | .LtE=>.le | .Gt=>.gt | .GtE=>.ge | .Is=>.Sl | .IsNot=>.Tc | .In=>.Tb | .NotIn=>.Cf
noncomputable def Lx:Const->Option AV
 | .int i=>some (.int i)
 | .str s=>some (.str s.cps.toList)
 | .bool b=>some (.bool b)
 | .none=>some .none
 |_=>none
noncomputable def w0.len:w0->Nat
 | .nil=>0
 | .cons _ r=>r.len+1
section
variable (G:List (j7×AV))
noncomputable def ux (ns:gm) (x:j7):Option CE:=
 if x=td then none else match h_ ns x with
  |some .globalImplicit=>(h_ G x).map .cst
  |some k=>if isVar k then (r6 (slots ns) x).map .var else none
  |none=>none
theorem Cn {ns:gm} {x:j7} {c:CE} (h:ux G ns x=some c):¬x=td/\((h_ ns x=some .globalImplicit/\∃v,h_ G x=some v/\c= .cst v)\/∃k i,h_ ns x=some k/\(k= .local\/k= .cell\/k= .free)/\r6 (slots ns) x=some i/\c= .var i):=by
 unfold ux at h
 by_cases hd:x=td
 .rw [if_pos hd] at h;contradiction
 .rw [if_neg hd] at h
  refine ⟨hd,?_⟩
  induction q:h_ ns x with
  |none=>rw [q] at h;contradiction
  |some k=>
   rw [q] at h
   have m:∀k:vA,(r6 (slots ns) x).map CE.var=some c->k= .local\/k= .cell\/k= .free->(some k=some .globalImplicit/\∃v,h_ G x=some v/\c= .cst v)\/∃k' i,some k=some k'/\(k'= .local\/k'= .cell\/k'= .free)/\r6 (slots ns) x=some i/\c= .var i:=λk h o=>.inr (eS (fV.mp h) λi a b=>⟨k,i,rfl,o,a,b.symm⟩)
   induction k using H8 with
   |globalImplicit=>exact .inl ⟨rfl,eS (fV.mp h) λv a b=>⟨v,a,b.symm⟩⟩
   |«local»=>exact m _ h (.inl rfl)
   |cell=>exact m _ h (.inr (.inl rfl))
   |free=>exact m _ h (.inr (.inr rfl))
   |_=>contradiction
noncomputable def oj (ns:gm) (x:j7):Option Nat:=match h_ ns x with
 |some k=>if Qr k then r6 (slots ns) x else none
 |none=>none
noncomputable def uy (ns:gm):List gc->Option (List Nat)
 |[]=>some []
 |e::r=>((EU e).bind (oj ns)).bind λi=>(uy ns r).map (i::·)
theorem th (h:uy v (a0::az)=some C):∃x p i a,oj v x=some i/\uy v az=some a/\a0= .Name x p/\C=i::a:=
 eS (jh.mp h) λi e c=>eS (jh.mp e) λx d f=>j_ (Cm d) λp b=>eS (fV.mp c) λa g j=>⟨x,p,i,a,f,g,b,j.symm⟩
noncomputable def Am (ns:gm) (e:gc):Option (List Nat):=rC (M:=λ_=>Option (List Nat)) 23 e ⟨λx _=>(oj ns x).map ([·])⟩
 (rC (M:=λ_=>Option (List Nat)) 25 e ⟨λes _ _=>(uy ns es).bind λl=>if 2<=l.length then some l else none⟩ none)
noncomputable def xb (e:gc):Bool:=!(e.ctorIdx==22||e.ctorIdx==7||e.ctorIdx==9||e.ctorIdx==10)
noncomputable def An:List gc->Bool
 |[]=>true
 |e::r=>xb e&&An r
noncomputable def qm (ns ms:gm):List (Option Nat):=(slots ms).map λx=>if h_ ms x=some .free then r6 (slots ns) x else none
noncomputable def ye (ns:gm) (e:gc):Bool:=decide (EU e=some vf)&&decide (h_ ns vf=some .globalImplicit)
noncomputable def Ti:Str:=⟨⟨[115,101,116,115]⟩⟩
noncomputable def Ly:Str:=⟨⟨[119,111,114,100,115,95,111,102]⟩⟩
noncomputable def BN (ns:gm):Bool:=decide (h_ ns Ti=some .local)&&decide (h_ ns Ly=some .globalImplicit)
noncomputable def Ao (sc:En):Bool:=decide (sc.kind= .function)&&!sc.isGenerator&&!sc.isCoroutine&&decide (sc.names.map (·.1)).Nodup&&!decide (te∈sc.names.map (·.1))
noncomputable def Dp (sc:En):Bool:=Ao sc&&!BN sc.names
noncomputable def qZ (ns:gm):gm->Bool
 |[]=>true
 |(x,k)::r=>(match k with
  | .free=>(match h_ ns x with |some .cell=>true |some .free=>true |_=>false)
  |_=>true)&&qZ ns r
noncomputable def G_ (sc:En):List Arg->Bool
 |[x]=>x.annotation.isNone&&decide (slots sc.names=[x.arg])&&decide (h_ sc.names x.arg=some .local)
 |_=>false
noncomputable def Co (a:yX) (sc:En):Bool:=a.posonlyargs.isEmpty&&a.vararg.isNone&&a.kwonlyargs.isEmpty&&a.kw_defaults.isEmpty&&a.kwarg.isNone&&a.defaults.isEmpty&&Dp sc&&qZ [] sc.names&&G_ sc a.args
noncomputable def Ip (e:gc):Bool:=e.ctorIdx==16
noncomputable def EV (t e:gc):Bool:=rC (M:=λ_=>Bool) 25 t ⟨λ_ _ _=>rC (M:=λ_=>Bool) 25 e ⟨λvs _ _=>vs.any λe=>!GS 8 e⟩ true⟩ true
noncomputable abbrev argNames (as:List Arg):List Str:=as.map (·.arg)
noncomputable def Dq (l:List j7):List j7->Option (List Nat)
 |[]=>some []
 |x::r=>(r6 l x).bind λi=>(Dq l r).map (i::·)
end
structure Def where
 params:yX
 body:List zu
 scope:En
noncomputable def noFn:mN:=⟨[],[],0,.cons (.ex (.var 0)) .nil⟩
end
noncomputable def GG:List (j7×AV):=[(⟨⟨[95,119,97,108,108]⟩⟩,.fn 0),(⟨⟨[67,108,97,115,115,68,101,102]⟩⟩,.cls 0),(⟨⟨[73,110,102,111]⟩⟩,.cls 1),(⟨⟨[66,117,102,102,101,114]⟩⟩,.cls 2),(⟨⟨[115,101,116,95,99,108,117,115,116,101,114]⟩⟩,.fn 15),(⟨⟨[119,105,100,101,110,101,100]⟩⟩,.fn 16),(⟨⟨[109,101,114,103,101]⟩⟩,.fn 17),(⟨⟨[73,71,78,79,82,69,95,66,65,83,69,83]⟩⟩,.int 2),(⟨⟨[73,71,78,79,82,69,95,76,73,71,65,84,85,82,69,83]⟩⟩,.int 4),(⟨⟨[73,71,78,79,82,69,95,77,65,82,75,83]⟩⟩,.int 8),(⟨⟨[85,83,69,95,83,69,84]⟩⟩,.int 16),(⟨⟨[76,111,111,107,117,112]⟩⟩,.cls 3),(⟨⟨[83,99,101,110,101]⟩⟩,.cls 4),(⟨⟨[97,116,116,97,99,104,95,119,97,110,116,101,100]⟩⟩,.fn 21),(⟨⟨[99,108,97,115,115,95,98,105,116]⟩⟩,.fn 22),(⟨⟨[105,115,95,105,103,110,111,114,101,100]⟩⟩,.fn 23),(⟨⟨[112,97,115,115,101,115]⟩⟩,.fn 24),(⟨⟨[75,73,78,68,83,95,73,78,95,73,78,80,85,84]⟩⟩,.tup [.str [122,119,106],.str [104,105,100,100,101,110]]),(⟨⟨[103,108,121,112,104,95,116,101,115,116,115]⟩⟩,.fn 25),(⟨⟨[102,105,116,115]⟩⟩,.fn 26),(⟨⟨[105,115,95,98,111,114,110,101]⟩⟩,.fn 27),(⟨⟨[102,111,117,110,100,95,97,116]⟩⟩,.fn 28),(⟨⟨[105,110,112,117,116,95,97,116]⟩⟩,.fn 29),(⟨⟨[105,115,95,112,105,101,99,101]⟩⟩,.fn 30),(⟨⟨[104,111,108,100,95,116,111,103,101,116,104,101,114]⟩⟩,.fn 31),(⟨⟨[66,65,83,69,95,108,105,103,97,116,117,114,101]⟩⟩,.int 1),(⟨⟨[77,65,82,75]⟩⟩,.int 3),(⟨⟨[98,101,103,105,110,115,95,119,105,116,104]⟩⟩,.fn 32),(⟨⟨[108,105,118,101,95,114,111,119,115]⟩⟩,.fn 33),(⟨⟨[76,105,103,97,116,117,114,101]⟩⟩,.cls 5),(⟨⟨[112,97,114,116,95,99,111,117,110,116]⟩⟩,.fn 36),(⟨⟨[119,97,121,95,111,102]⟩⟩,.fn 37),(⟨⟨[116,105,101]⟩⟩,.fn 38),(⟨⟨[116,105,101,95,98,101,104,105,110,100]⟩⟩,.fn 39),(⟨⟨[116,105,101,95,97,108,108]⟩⟩,.fn 40),(⟨⟨[106,111,105,110]⟩⟩,.fn 41),(⟨⟨[97,112,112,108,121,95,108,105,103,97,116,117,114,101]⟩⟩,.fn 42),(⟨⟨[78,79,78,69]⟩⟩,.int (-1)),(⟨⟨[84,114,105,101]⟩⟩,.cls 6),(⟨⟨[116,114,105,101,95,111,102]⟩⟩,.fn 47),(⟨⟨[119,111,114,100,115,95,111,102]⟩⟩,.fn 48),(⟨⟨[116,97,98,108,101,95,111,102]⟩⟩,.fn 49),(⟨⟨[115,112,101,108,108,105,110,103,115]⟩⟩,.fn 50),(⟨⟨[108,111,110,103,101,115,116]⟩⟩,.fn 51),(⟨⟨[114,117,110,95,116,114,105,101,115]⟩⟩,.fn 52),(⟨⟨[114,117,110,95,116,114,105,101]⟩⟩,.fn 53),(⟨⟨[70,101,101,100,101,114]⟩⟩,.cls 7),(⟨⟨[108,101,97,115,116,95,116,114,105,101]⟩⟩,.fn 59),(⟨⟨[105,110,95,98,114,101,97,100,116,104]⟩⟩,.fn 60),(⟨⟨[83,116,97,116,101,84,97,98,108,101]⟩⟩,.cls 8),(⟨⟨[99,111,108,117,109,110,115,95,111,102]⟩⟩,.fn 63),(⟨⟨[115,116,97,116,101,95,116,97,98,108,101]⟩⟩,.fn 64),(⟨⟨[114,117,110,95,115,116,97,116,101,115]⟩⟩,.fn 65),(⟨⟨[78,79,95,67,76,65,83,83]⟩⟩,.int 0),(⟨⟨[66,65,83,69,95,103,100,101,102]⟩⟩,.int 1),(⟨⟨[67,79,77,80,79,78,69,78,84]⟩⟩,.int 4),(⟨⟨[71,100,101,102]⟩⟩,.cls 9),(⟨⟨[110,111,95,103,100,101,102]⟩⟩,.fn 71),(⟨⟨[95,108,97,119,95,100,114,97,119]⟩⟩,.fn 72),(⟨⟨[95,108,97,119,95,115,101,116,115]⟩⟩,.fn 73),(⟨⟨[95,108,97,119,95,119,111,114,100,115]⟩⟩,.fn 74),(⟨⟨[95,108,97,119,95,114,117,110]⟩⟩,.fn 75),(⟨⟨[95,108,97,119,95,97,112,112,108,105,101,100]⟩⟩,.fn 76),(⟨⟨[95,108,97,119,95,102,101,100]⟩⟩,.fn 77),(⟨⟨[95,108,97,119,95,97,102,116,101,114]⟩⟩,.fn 78),(⟨⟨[95,108,97,119,95,115,105,122,101,115]⟩⟩,.fn 79),(⟨⟨[95,108,97,119,95,105,110,95,111,114,100,101,114]⟩⟩,.fn 80),(⟨⟨[108,97,119]⟩⟩,.fn 81),(⟨⟨[108,101,110]⟩⟩,.bi 0),(⟨⟨[115,111,114,116,101,100]⟩⟩,.bi 1),(⟨⟨[109,105,110]⟩⟩,.bi 2),(⟨⟨[109,97,120]⟩⟩,.bi 3),(⟨⟨[114,97,110,103,101]⟩⟩,.bi 4),(⟨⟨[116,117,112,108,101]⟩⟩,.bi 5),(⟨⟨[100,105,99,116]⟩⟩,.bi 6),(⟨⟨[97,110,121]⟩⟩,.bi 7),(⟨⟨[97,98,115]⟩⟩,.bi 8),(⟨⟨[105,110,116]⟩⟩,.bi 9),(⟨⟨[108,105,115,116]⟩⟩,.bi 10)]
noncomputable def c1:mN:=⟨[0,1],[],2,.cons (.iA (.var 0) 33 (.var 1)) .nil⟩
noncomputable def c2:mN:=⟨[0,1],[],2,.cons (.ret (.fL (.attr (.var 0) 33) 1 (.cons (.var 1) (.cons (.cst (.int 0)) .nil)))) .nil⟩
noncomputable def c5:mN:=⟨[0],[],1,.cons (.ret (.call (.cst (.bi 5)) (.cons (.comp [none,none,some 0] (.tup (.cons (.var 1) (.cons (.sub (.attr (.var 2) 33) (.var 1)) .nil))) [1] (.call (.cst (.bi 1)) (.cons (.attr (.var 0) 33) .nil)) .nil .nil) .nil))) .nil⟩
noncomputable def c6:mN:=⟨[0,1,2,3],[],4,.cons (.iA (.var 0) 34 (.var 1)) (.cons (.iA (.var 0) 29 (.var 2)) (.cons (.iA (.var 0) 35 (.var 3)) (.cons (.iA (.var 0) 36 (.cst (.int 0))) (.cons (.iA (.var 0) 31 (.cst (.bool false))) (.cons (.iA (.var 0) 24 (.cst (.int 0))) (.cons (.iA (.var 0) 25 (.cst (.int 0))) (.cons (.iA (.var 0) 26 (.cst (.int 0))) (.cons (.iA (.var 0) 30 (.cst (.int 0))) (.cons (.iA (.var 0) 37 (.cst (.str []))) (.cons (.iA (.var 0) 38 (.cst (.int 0))) (.cons (.iA (.var 0) 39 (.cst (.int 0))) (.cons (.iA (.var 0) 40 (.cst (.int 0))) (.cons (.iA (.var 0) 41 (.cst (.int 0))) (.cons (.iA (.var 0) 42 (.cst (.int 0))) (.cons (.iA (.var 0) 43 (.cst (.str []))) .nil)))))))))))))))⟩
noncomputable def c9:mN:=⟨[0,1,2],[.bool false],3,.cons (.iA (.var 0) 28 (.var 1)) (.cons (.iA (.var 0) 44 (.var 2)) (.cons (.iA (.var 0) 45 (.cst (.int 0))) (.cons (.iA (.var 0) 46 (.cst (.int 0))) .nil)))⟩
noncomputable def Tj:mN:=⟨[0],[],1,.cons (.ret (.comp [none,none] (.attr (.var 1) 29) [1] (.attr (.var 0) 28) .nil .nil)) .nil⟩
noncomputable def Xi:mN:=⟨[0],[],1,.cons (.iA (.var 0) 45 (.bin .add (.attr (.var 0) 45) (.cst (.int 1)))) (.cons (.ret (.attr (.var 0) 45)) .nil)⟩
noncomputable def Xj:mN:=⟨[0,1],[],2,.cons (.iff (.cmp (.attr (.var 0) 35) .ne (.var 1)) (.cons (.iA (.var 0) 35 (.var 1)) (.cons (.iA (.var 0) 31 (.cst (.bool false))) .nil)) .nil) .nil⟩
noncomputable def Xk:mN:=⟨[0,1,2],[],5,.cons (.asg 3 (.var 1)) (.cons (.asg 4 (.var 2)) (.cons (.ET (.and (.cmp (.var 4) .lt (.call (.cst (.bi 0)) (.cons (.var 0) .nil))) (.cmp (.attr (.sub (.var 0) (.var 4)) 35) .eq (.attr (.sub (.var 0) (.bin .sub (.var 4) (.cst (.int 1)))) 35))) (.cons (.asg 4 (.bin .add (.var 4) (.cst (.int 1)))) .nil)) (.cons (.ET (.and (.cmp (.var 3) .gt (.cst (.int 0))) (.cmp (.attr (.sub (.var 0) (.bin .sub (.var 3) (.cst (.int 1)))) 35) .eq (.attr (.sub (.var 0) (.var 3)) 35))) (.cons (.asg 3 (.bin .sub (.var 3) (.cst (.int 1)))) .nil)) (.cons (.ret (.tup (.cons (.var 3) (.cons (.var 4) .nil)))) .nil))))⟩
noncomputable def Xl:mN:=⟨[0,1,2],[],7,.cons (.iff (.cmp (.bin .sub (.var 2) (.var 1)) .lt (.cst (.int 2))) (.cons (.ret (.cst .none)) .nil) .nil) (.cons (.asg 4 (.call (.cst (.bi 2)) (.cons (.comp [none,none] (.attr (.var 1) 35) [1] (.tZ (.attr (.var 0) 28) (.var 1) (.var 2)) .nil .nil) .nil))) (.cons (.ta [5,6] (.call (.cst (.fn 16)) (.cons (.attr (.var 0) 28) (.cons (.var 1) (.cons (.var 2) .nil))))) (.cons (.kg [3] (.tZ (.attr (.var 0) 28) (.var 5) (.var 6)) (.cons (.ex (.call (.cst (.fn 15)) (.cons (.var 3) (.cons (.var 4) .nil)))) .nil)) .nil)))⟩
noncomputable def Xm:mN:=⟨[0,1,2,3,4],[],5,.cons (.iA (.var 0) 37 (.var 1)) (.cons (.iA (.var 0) 47 (.var 2)) (.cons (.iA (.var 0) 48 (.var 3)) (.cons (.iA (.var 0) 49 (.var 4)) .nil)))⟩
noncomputable def Xn:mN:=⟨[0,1,2,3,4,5,6],[.int 0],7,.cons (.iA (.var 0) 27 (.var 1)) (.cons (.iA (.var 0) 50 (.var 2)) (.cons (.iA (.var 0) 51 (.var 3)) (.cons (.iA (.var 0) 52 (.var 4)) (.cons (.iA (.var 0) 36 (.var 5)) (.cons (.iA (.var 0) 53 (.var 6)) (.cons (.iA (.var 0) 32 (.lst (.cons (.cst (.int 0)) .nil))) .nil))))))⟩
noncomputable def Xo:mN:=⟨[0],[],1,.cons (.ret (.fL (.dict (.cons (.cst (.int 1)) (.cons (.cst (.int 2)) (.cons (.cst (.int 2)) (.cons (.cst (.int 4)) (.cons (.cst (.int 3)) (.cons (.cst (.int 8)) .nil))))))) 1 (.cons (.var 0) (.cons (.cst (.int 0)) .nil)))) .nil⟩
noncomputable def Xp:mN:=⟨[0,1,2],[],5,.cons (.asg 3 (.fL (.var 0) 15 (.cons (.var 2) .nil))) (.cons (.iff (.bin .band (.attr (.var 1) 47) (.call (.cst (.fn 22)) (.cons (.var 3) .nil))) (.cons (.ret (.cst (.bool true))) .nil) .nil) (.cons (.iff (.cmp (.var 3) .ne (.cst (.int 3))) (.cons (.ret (.cst (.bool false))) .nil) .nil) (.cons (.iff (.bin .band (.attr (.var 1) 47) (.cst (.int 16))) (.cons (.ret (.not (.fL (.var 0) 17 (.cons (.attr (.var 1) 48) (.cons (.var 2) .nil))))) .nil) .nil) (.cons (.asg 4 (.call (.cst (.fn 21)) (.cons (.attr (.var 1) 47) .nil))) (.cons (.ret (.and (.cmp (.var 4) .gt (.cst (.int 0))) (.cmp (.fL (.var 0) 16 (.cons (.var 2) .nil)) .ne (.var 4)))) .nil)))))⟩
noncomputable def Xq:mN:=⟨[0,1],[],2,.cons (.ret (.call (.cst (.fn 23)) (.cons (.attr (.var 0) 50) (.cons (.attr (.var 0) 52) (.cons (.attr (.sub (.attr (.attr (.var 0) 27) 28) (.var 1)) 29) .nil))))) .nil⟩
noncomputable def Xr:mN:=⟨[0],[],1,.cons (.ret (.call (.cst (.bi 5)) (.cons (.comp [none,none] (.tup (.cons (.cst (.str [103,108,121,112,104])) (.cons (.var 1) .nil))) [1] (.var 0) .nil .nil) .nil))) .nil⟩
noncomputable def Vr:mN:=⟨[0,1],[],2,.cons (.iff (.cmp (.sub (.var 0) (.cst (.int 0))) .eq (.cst (.str [103,108,121,112,104]))) (.cons (.ret (.cmp (.sub (.var 0) (.cst (.int 1))) .eq (.var 1))) .nil) .nil) (.cons (.iff (.cmp (.sub (.var 0) (.cst (.int 0))) .eq (.cst (.str [99,108,97,115,115]))) (.cons (.ret (.cmp (.fL (.sub (.var 0) (.cst (.int 1))) 4 (.cons (.var 1) .nil)) .eq (.sub (.var 0) (.cst (.int 2))))) .nil) .nil) (.cons (.ret (.fL (.sub (.var 0) (.cst (.int 1))) 18 (.cons (.var 1) .nil))) .nil))⟩
noncomputable def Xs:mN:=⟨[0,1],[],2,.cons (.ret (.cmp (.bin .band (.attr (.var 1) 36) (.attr (.var 0) 36)) .ne (.cst (.int 0)))) .nil⟩
noncomputable def Xt:mN:=⟨[0,1,2,3,4,5],[],8,.cons (.asg 6 (.bin .add (.var 1) (.var 2))) (.cons (.ET (.EP (.cst (.int 0)) .le (.var 6) .lt (.call (.cst (.bi 0)) (.cons (.attr (.attr (.var 0) 27) 28) .nil))) (.cons (.iff (.not (.call (.cst (.fn 24)) (.cons (.var 0) (.cons (.var 6) .nil)))) (.cons (.asg 7 (.sub (.attr (.attr (.var 0) 27) 28) (.var 6))) (.cons (.iff (.and (.call (.cst (.fn 26)) (.cons (.var 3) (.cons (.attr (.var 7) 29) .nil))) (.or (.call (.cst (.fn 27)) (.cons (.var 0) (.cons (.var 7) .nil))) (.not (.var 5)))) (.cons (.ret (.var 6)) .nil) .nil) (.cons (.iff (.cmp (.attr (.var 7) 37) .Cf (.var 4)) (.cons (.ret (.neg (.cst (.int 1)))) .nil) .nil) .nil))) .nil) (.cons (.asg 6 (.bin .add (.var 6) (.var 2))) .nil))) (.cons (.ret (.neg (.cst (.int 1)))) .nil))⟩
noncomputable def Xu:mN:=⟨[0,1,2],[],6,.cons (.iff (.not (.call (.cst (.fn 26)) (.cons (.sub (.var 2) (.cst (.int 0))) (.cons (.attr (.sub (.attr (.attr (.var 0) 27) 28) (.var 1)) 29) .nil)))) (.cons (.ret (.cst .none)) .nil) .nil) (.cons (.asg 3 (.lst (.cons (.var 1) .nil))) (.cons (.kg [4] (.tZ (.var 2) (.cst (.int 1)) (.cst .none)) (.cons (.asg 5 (.call (.cst (.fn 28)) (.cons (.var 0) (.cons (.sub (.var 3) (.neg (.cst (.int 1)))) (.cons (.cst (.int 1)) (.cons (.var 4) (.cons (.cst (.tup [.str [122,119,106],.str [104,105,100,100,101,110]])) (.cons (.cst (.bool true)) .nil)))))))) (.cons (.iff (.cmp (.var 5) .lt (.cst (.int 0))) (.cons (.ret (.cst .none)) .nil) .nil) (.cons (.ex (.fL (.var 3) 0 (.cons (.var 5) .nil))) .nil)))) (.cons (.ret (.var 3)) .nil)))⟩
noncomputable def Xv:mN:=⟨[0],[],1,.cons (.ret (.and (.cmp (.attr (.var 0) 24) .ne (.cst (.int 0))) (.cmp (.attr (.var 0) 25) .ne (.cst (.int 0))))) .nil⟩
noncomputable def Xw:mN:=⟨[0,1],[],5,.cons (.asg 2 (.sub (.var 0) (.sub (.var 1) (.cst (.int 0))))) (.cons (.kg [3] (.tZ (.var 1) (.cst (.int 1)) (.cst .none)) (.cons (.asg 4 (.sub (.var 0) (.var 3))) (.cons (.iff (.call (.cst (.fn 30)) (.cons (.var 2) .nil)) (.cons (.iff (.cmp (.tup (.cons (.attr (.var 4) 24) (.cons (.attr (.var 4) 25) .nil))) .ne (.tup (.cons (.attr (.var 2) 24) (.cons (.attr (.var 2) 25) .nil)))) (.cons (.ret (.cst (.bool false))) .nil) .nil) .nil) (.cons (.iff (.and (.call (.cst (.fn 30)) (.cons (.var 4) .nil)) (.cmp (.attr (.var 4) 24) .ne (.attr (.var 2) 24))) (.cons (.ret (.cst (.bool false))) .nil) .nil) .nil)) .nil))) (.cons (.ret (.cst (.bool true))) .nil))⟩
noncomputable def Xx:mN:=⟨[0,1],[],2,.cons (.ret (.cmp (.tZ (.var 0) (.cst .none) (.call (.cst (.bi 0)) (.cons (.var 1) .nil))) .eq (.var 1))) .nil⟩
noncomputable def Xy:mN:=⟨[0],[],4,.cons (.asg 1 (.lst .nil)) (.cons (.kg [2,3] (.var 0) (.cons (.iff (.cmp (.comp [none,none,none,some 2] (.var 1) [1,2] (.var 1) (.cons (.call (.cst (.fn 32)) (.cons (.var 3) (.cons (.var 1) .nil))) .nil) .nil) .eq (.lst .nil)) (.cons (.ex (.fL (.var 1) 0 (.cons (.tup (.cons (.var 2) (.cons (.var 3) .nil))) .nil))) .nil) .nil) .nil)) (.cons (.ret (.var 1)) .nil))⟩
noncomputable def Xz:mN:=⟨[0,1],[],2,.cons (.iA (.var 0) 54 (.var 1)) .nil⟩
noncomputable def XA:mN:=⟨[0],[],2,.cons (.asg 1 (.comp [none,none,some 0] (.tup (.cons (.var 1) (.cons (.call (.cst (.bi 5)) (.cons (.call (.cst (.bi 1)) (.cons (.call (.cst (.fn 33)) (.cons (.sub (.attr (.var 2) 54) (.var 1)) .nil)) .nil)) .nil)) .nil))) [1] (.call (.cst (.bi 1)) (.cons (.attr (.var 0) 54) .nil)) .nil .nil)) (.cons (.ret (.call (.cst (.bi 5)) (.cons (.comp [none,none] (.var 1) [1] (.var 1) (.cons (.cmp (.sub (.var 1) (.cst (.int 1))) .ne (.tup .nil)) .nil) .nil) .nil))) .nil)⟩
noncomputable def XB:mN:=⟨[0],[],1,.cons (.ret (.call (.cst (.bi 3)) (.cons (.attr (.var 0) 26) (.cons (.cst (.int 1)) .nil)))) .nil⟩
noncomputable def XC:mN:=⟨[0,1],[],2,.cons (.iff (.cmp (.comp [none,none,some 0] (.var 1) [1] (.tZ (.var 1) (.cst (.int 1)) (.cst .none)) (.cons (.cmp (.fL (.var 2) 15 (.cons (.var 1) .nil)) .ne (.cst (.int 3))) .nil) .nil) .ne (.lst .nil)) (.cons (.ret (.cst (.str [108,105,103,97,116,117,114,101]))) .nil) .nil) (.cons (.ret (.fL (.dict (.cons (.cst (.int 1)) (.cons (.cst (.str [98,97,115,101])) (.cons (.cst (.int 3)) (.cons (.cst (.str [109,97,114,107])) .nil))))) 1 (.cons (.fL (.var 0) 15 (.cons (.sub (.var 1) (.cst (.int 0))) .nil)) (.cons (.cst (.str [108,105,103,97,116,117,114,101])) .nil)))) .nil)⟩
noncomputable def XD:mN:=⟨[0,1,2,3,4,5],[],7,.cons (.asg 6 (.var 1)) (.cons (.ET (.and (.cmp (.var 2) .gt (.cst (.int 0))) (.and (.cmp (.var 6) .lt (.call (.cst (.bi 0)) (.cons (.var 0) .nil))) (.and (.cmp (.attr (.sub (.var 0) (.var 6)) 24) .eq (.var 2)) (.cmp (.attr (.sub (.var 0) (.var 6)) 25) .gt (.cst (.int 0)))))) (.cons (.ex (.call (.cst (.fn 38)) (.cons (.sub (.var 0) (.var 6)) (.cons (.var 3) (.cons (.var 4) (.cons (.var 5) .nil)))))) (.cons (.asg 6 (.bin .add (.var 6) (.cst (.int 1)))) .nil))) .nil)⟩
noncomputable def XE:mN:=⟨[0,1,2,3],[],10,.cons (.asg 4 (.sub (.var 0) (.sub (.var 1) (.cst (.int 0))))) (.cons (.ta [5,6,7] (.tup (.cons (.cst (.int 0)) (.cons (.call (.cst (.fn 36)) (.cons (.var 4) .nil)) (.cons (.attr (.var 4) 24) .nil))))) (.cons (.kg [8] (.call (.cst (.bi 4)) (.cons (.cst (.int 1)) (.cons (.call (.cst (.bi 0)) (.cons (.var 1) .nil)) .nil))) (.cons (.iff (.cmp (.var 2) .eq (.cst (.str [108,105,103,97,116,117,114,101]))) (.cons (.kg [9] (.call (.cst (.bi 4)) (.cons (.bin .add (.sub (.var 1) (.bin .sub (.var 8) (.cst (.int 1)))) (.cst (.int 1))) (.cons (.sub (.var 1) (.var 8)) .nil))) (.cons (.ex (.call (.cst (.fn 38)) (.cons (.sub (.var 0) (.var 9)) (.cons (.var 3) (.cons (.var 5) (.cons (.var 6) .nil)))))) .nil)) .nil) .nil) (.cons (.asg 4 (.sub (.var 0) (.sub (.var 1) (.var 8)))) (.cons (.ta [5,6,7] (.tup (.cons (.bin .add (.var 5) (.var 6)) (.cons (.call (.cst (.fn 36)) (.cons (.var 4) .nil)) (.cons (.attr (.var 4) 24) .nil))))) .nil)))) (.cons (.iff (.cmp (.var 2) .ne (.cst (.str [109,97,114,107]))) (.cons (.ex (.call (.cst (.fn 39)) (.cons (.var 0) (.cons (.bin .add (.sub (.var 1) (.neg (.cst (.int 1)))) (.cst (.int 1))) (.cons (.var 7) (.cons (.var 3) (.cons (.var 5) (.cons (.var 6) .nil)))))))) .nil) .nil) (.cons (.ret (.bin .add (.var 5) (.var 6))) .nil))))⟩
noncomputable def XF:mN:=⟨[0,1,2],[],9,.cons (.asg 3 (.attr (.var 0) 27)) (.cons (.asg 4 (.attr (.var 3) 28)) (.cons (.asg 5 (.call (.cst (.fn 37)) (.cons (.attr (.var 0) 50) (.cons (.comp [none,none,some 4] (.attr (.sub (.var 2) (.var 1)) 29) [1] (.var 1) .nil .nil) .nil)))) (.cons (.ex (.call (.cst (.fn 17)) (.cons (.var 3) (.cons (.sub (.var 1) (.cst (.int 0))) (.cons (.bin .add (.sub (.var 1) (.neg (.cst (.int 1)))) (.cst (.int 1))) .nil))))) (.cons (.asg 6 (.ite (.cmp (.var 5) .eq (.cst (.str [108,105,103,97,116,117,114,101]))) (.fL (.var 3) 7 .nil) (.cst (.int 0)))) (.cons (.asg 7 (.call (.cst (.fn 40)) (.cons (.var 4) (.cons (.var 1) (.cons (.var 5) (.cons (.var 6) .nil)))))) (.cons (.asg 8 (.sub (.var 4) (.sub (.var 1) (.cst (.int 0))))) (.cons (.iA (.var 8) 29 (.var 2)) (.cons (.iA (.var 8) 30 (.cst (.int 0))) (.cons (.iA (.var 8) 31 (.cmp (.comp [none,none,some 4] (.var 1) [1] (.var 1) (.cons (.attr (.sub (.var 2) (.var 1)) 31) .nil) .nil) .ne (.lst .nil))) (.cons (.iff (.cmp (.var 5) .eq (.cst (.str [108,105,103,97,116,117,114,101]))) (.cons (.iA (.var 8) 24 (.var 6)) (.cons (.iA (.var 8) 25 (.cst (.int 0))) (.cons (.iA (.var 8) 26 (.var 7)) .nil))) .nil) (.cons (.Lv (.attr (.var 3) 28) (.sub (.var 1) (.cst (.int 0))) (.bin .add (.sub (.var 1) (.neg (.cst (.int 1)))) (.cst (.int 1))) (.comp [none,none,some 1,some 4] (.sub (.var 3) (.var 1)) [1] (.call (.cst (.bi 4)) (.cons (.sub (.var 1) (.cst (.int 0))) (.cons (.bin .add (.sub (.var 1) (.neg (.cst (.int 1)))) (.cst (.int 1))) .nil))) (.cons (.or (.cmp (.var 1) .eq (.sub (.var 2) (.cst (.int 0)))) (.cmp (.var 1) .Cf (.var 2))) .nil) .nil)) .nil)))))))))))⟩
noncomputable def XG:mN:=⟨[0,1,2],[],8,.cons (.asg 3 (.attr (.attr (.var 0) 27) 28)) (.cons (.asg 4 (.attr (.sub (.var 3) (.var 2)) 29)) (.cons (.kg [5,6] (.fL (.attr (.var 1) 54) 1 (.cons (.var 4) (.cons (.lst .nil) .nil))) (.cons (.iff (.cmp (.var 5) .eq (.tup .nil)) (.cons (.iA (.sub (.var 3) (.var 2)) 29 (.var 6)) (.cons (.ret (.bin .add (.var 2) (.cst (.int 1)))) .nil)) .nil) (.cons (.asg 7 (.call (.cst (.fn 29)) (.cons (.var 0) (.cons (.var 2) (.cons (.call (.cst (.fn 25)) (.cons (.bin .add (.tup (.cons (.var 4) .nil)) (.var 5)) .nil)) .nil))))) (.cons (.iff (.and (.cmp (.var 7) .Tc (.cst .none)) (.call (.cst (.fn 31)) (.cons (.var 3) (.cons (.var 7) .nil)))) (.cons (.ex (.call (.cst (.fn 41)) (.cons (.var 0) (.cons (.var 7) (.cons (.var 6) .nil))))) (.cons (.ret (.bin .sub (.bin .add (.sub (.var 7) (.neg (.cst (.int 1)))) (.cst (.int 1))) (.call (.cst (.bi 0)) (.cons (.var 5) .nil)))) .nil)) .nil) .nil)))) (.cons (.ret (.neg (.cst (.int 1)))) .nil)))⟩
noncomputable def XH:mN:=⟨[0],[],1,.cons (.iA (.var 0) 32 (.lst (.cons (.dict .nil) .nil))) (.cons (.iA (.var 0) 55 (.lst (.cons (.cst (.int (-1))) .nil))) .nil)⟩
noncomputable def XI:mN:=⟨[0,1,2],[],5,.cons (.asg 3 (.cst (.int 0))) (.cons (.kg [4] (.var 1) (.cons (.iff (.cmp (.var 4) .Cf (.sub (.attr (.var 0) 32) (.var 3))) (.cons (.t7 (.sub (.attr (.var 0) 32) (.var 3)) (.var 4) (.call (.cst (.bi 0)) (.cons (.attr (.var 0) 32) .nil))) (.cons (.ex (.fL (.attr (.var 0) 32) 0 (.cons (.dict .nil) .nil))) (.cons (.ex (.fL (.attr (.var 0) 55) 0 (.cons (.cst (.int (-1))) .nil))) .nil))) .nil) (.cons (.asg 3 (.sub (.sub (.attr (.var 0) 32) (.var 3)) (.var 4))) .nil))) (.cons (.t7 (.attr (.var 0) 55) (.var 3) (.var 2)) .nil))⟩
noncomputable def XJ:mN:=⟨[0],[],1,.cons (.ret (.call (.cst (.bi 0)) (.cons (.attr (.var 0) 32) .nil))) .nil⟩
noncomputable def XK:mN:=⟨[0,1,2],[],3,.cons (.ret (.fL (.sub (.attr (.var 0) 32) (.var 1)) 1 (.cons (.var 2) (.cons (.cst (.int (-1))) .nil)))) .nil⟩
noncomputable def XM:mN:=⟨[0],[],5,.cons (.asg 1 (.call (.cst (.cls 6)) .nil)) (.cons (.kg [2] (.call (.cst (.bi 1)) (.cons (.attr (.var 0) 54) .nil)) (.cons (.kg [3,4] (.call (.cst (.fn 33)) (.cons (.sub (.attr (.var 0) 54) (.var 2)) .nil)) (.cons (.ex (.fL (.var 1) 8 (.cons (.bin .add (.tup (.cons (.var 2) .nil)) (.var 3)) (.cons (.var 4) .nil)))) .nil)) .nil)) (.cons (.ret (.var 1)) .nil))⟩
noncomputable def XN:mN:=⟨[0],[],6,.cons (.asg 1 (.lst .nil)) (.cons (.asg 2 (.lst (.cons (.tup (.cons (.cst (.int 0)) (.cons (.tup .nil) .nil))) .nil))) (.cons (.ET (.var 2) (.cons (.ta [3,4] (.fL (.var 2) 3 .nil)) (.cons (.iff (.cmp (.sub (.attr (.var 0) 55) (.var 3)) .ne (.cst (.int (-1)))) (.cons (.ex (.fL (.var 1) 0 (.cons (.tup (.cons (.var 4) (.cons (.sub (.attr (.var 0) 55) (.var 3)) .nil))) .nil))) .nil) .nil) (.cons (.kg [5] (.sub (.attr (.var 0) 32) (.var 3)) (.cons (.ex (.fL (.var 2) 0 (.cons (.tup (.cons (.sub (.sub (.attr (.var 0) 32) (.var 3)) (.var 5)) (.cons (.bin .add (.var 4) (.tup (.cons (.var 5) .nil))) .nil))) .nil))) .nil)) .nil)))) (.cons (.ret (.call (.cst (.bi 1)) (.cons (.var 1) .nil))) .nil)))⟩
noncomputable def XO:mN:=⟨[0],[],4,.cons (.asg 1 (.dict .nil)) (.cons (.kg [2,3] (.ER (.call (.cst (.fn 48)) (.cons (.var 0) .nil)) (.tup (.cons (.neg (.call (.cst (.bi 0)) (.cons (.sub (.var 0) (.cst (.int 0))) .nil))) (.cons (.sub (.var 0) (.cst (.int 0))) .nil)))) (.cons (.ex (.fL (.fL (.var 1) 2 (.cons (.sub (.var 2) (.cst (.int 0))) (.cons (.lst .nil) .nil))) 0 (.cons (.tup (.cons (.tZ (.var 2) (.cst (.int 1)) (.cst .none)) (.cons (.var 3) .nil))) .nil))) .nil)) (.cons (.ret (.call (.cst (.cls 5)) (.cons (.var 1) .nil))) .nil))⟩
noncomputable def XP:mN:=⟨[0],[],4,.cons (.asg 1 (.dict .nil)) (.cons (.kg [2,3] (.call (.cst (.fn 48)) (.cons (.var 0) .nil)) (.cons (.ex (.fL (.fL (.var 1) 2 (.cons (.var 3) (.cons (.lst .nil) .nil))) 0 (.cons (.var 2) .nil))) .nil)) (.cons (.ret (.var 1)) .nil))⟩
noncomputable def XQ:mN:=⟨[0,1,2],[],6,.cons (.asg 3 (.cst (.int 0))) (.cons (.asg 4 (.tup (.cons (.var 2) (.cons (.cst (.int (-1))) .nil)))) (.cons (.kg [5] (.call (.cst (.bi 4)) (.cons (.var 2) (.cons (.call (.cst (.bi 0)) (.cons (.var 1) .nil)) .nil))) (.cons (.asg 3 (.fL (.var 0) 10 (.cons (.var 3) (.cons (.sub (.var 1) (.var 5)) .nil)))) (.cons (.iff (.cmp (.var 3) .eq (.cst (.int (-1)))) (.cons .brk .nil) .nil) (.cons (.iff (.cmp (.sub (.attr (.var 0) 55) (.var 3)) .ne (.cst (.int (-1)))) (.cons (.asg 4 (.tup (.cons (.bin .add (.var 5) (.cst (.int 1))) (.cons (.sub (.attr (.var 0) 55) (.var 3)) .nil)))) .nil) .nil) .nil)))) (.cons (.ret (.var 4)) .nil)))⟩
noncomputable def XR:mN:=⟨[0,1],[],7,.cons (.asg 2 (.lst .nil)) (.cons (.asg 3 (.cst (.int 0))) (.cons (.ET (.cmp (.var 3) .lt (.call (.cst (.bi 0)) (.cons (.var 1) .nil))) (.cons (.ta [4,5] (.tup (.cons (.var 3) (.cons (.cst (.int (-1))) .nil)))) (.cons (.kg [6] (.var 0) (.cons (.iff (.cmp (.var 5) .eq (.cst (.int (-1)))) (.cons (.ta [4,5] (.call (.cst (.fn 51)) (.cons (.var 6) (.cons (.var 1) (.cons (.var 3) .nil))))) .nil) .nil) .nil)) (.cons (.iff (.cmp (.var 5) .eq (.cst (.int (-1)))) (.cons (.ta [4,5] (.tup (.cons (.bin .add (.var 3) (.cst (.int 1))) (.cons (.sub (.var 1) (.var 3)) .nil)))) .nil) .nil) (.cons (.ex (.fL (.var 2) 0 (.cons (.var 5) .nil))) (.cons (.asg 3 (.var 4)) .nil)))))) (.cons (.ret (.var 2)) .nil)))⟩
noncomputable def XS:mN:=⟨[0,1],[],2,.cons (.ret (.call (.cst (.fn 52)) (.cons (.lst (.cons (.var 0) .nil)) (.cons (.var 1) .nil)))) .nil⟩
noncomputable def XT:mN:=⟨[0,1],[],2,.cons (.iA (.var 0) 56 (.var 1)) (.cons (.iA (.var 0) 57 (.lst .nil)) .nil)⟩
noncomputable def XU:mN:=⟨[0],[],3,.cons (.asg 1 (.cst (.int 0))) (.cons (.kg [2] (.attr (.var 0) 57) (.cons (.asg 1 (.fL (.attr (.var 0) 56) 10 (.cons (.var 1) (.cons (.var 2) .nil)))) (.cons (.iff (.cmp (.var 1) .eq (.cst (.int (-1)))) (.cons (.ret (.cst (.bool false))) .nil) .nil) .nil))) (.cons (.ret (.cmp (.sub (.attr (.attr (.var 0) 56) 32) (.var 1)) .ne (.dict .nil))) .nil))⟩
noncomputable def XW:mN:=⟨[0],[],3,.cons (.ta [1,2] (.call (.cst (.fn 51)) (.cons (.attr (.var 0) 56) (.cons (.attr (.var 0) 57) (.cons (.cst (.int 0)) .nil))))) (.cons (.iff (.cmp (.var 2) .eq (.cst (.int (-1)))) (.cons (.ta [1,2] (.tup (.cons (.cst (.int 1)) (.cons (.sub (.attr (.var 0) 57) (.cst (.int 0))) .nil)))) .nil) .nil) (.cons (.iA (.var 0) 57 (.tZ (.attr (.var 0) 57) (.var 1) (.cst .none))) (.cons (.ret (.var 2)) .nil)))⟩
noncomputable def XX:mN:=⟨[0,1],[],3,.cons (.ex (.fL (.attr (.var 0) 57) 0 (.cons (.var 1) .nil))) (.cons (.asg 2 (.lst .nil)) (.cons (.ET (.and (.attr (.var 0) 57) (.not (.fL (.var 0) 11 .nil))) (.cons (.ex (.fL (.var 2) 0 (.cons (.fL (.var 0) 12 .nil) .nil))) .nil)) (.cons (.ret (.var 2)) .nil)))⟩
noncomputable def XY:mN:=⟨[0],[],2,.cons (.asg 1 (.lst .nil)) (.cons (.ET (.attr (.var 0) 57) (.cons (.ex (.fL (.var 1) 0 (.cons (.fL (.var 0) 12 .nil) .nil))) .nil)) (.cons (.ret (.var 1)) .nil))⟩
noncomputable def XZ:mN:=⟨[0],[],6,.cons (.asg 1 (.bin .mul (.lst (.cons (.cst (.int 0)) .nil)) (.fL (.var 0) 9 .nil))) (.cons (.asg 2 (.dict .nil)) (.cons (.kg [3] (.call (.cst (.bi 4)) (.cons (.bin .sub (.fL (.var 0) 9 .nil) (.cst (.int 1))) (.cons (.neg (.cst (.int 1))) (.cons (.neg (.cst (.int 1))) .nil)))) (.cons (.asg 4 (.call (.cst (.bi 5)) (.cons (.comp [none,none,some 1,some 3,some 0] (.tup (.cons (.var 1) (.cons (.sub (.var 2) (.sub (.sub (.attr (.var 4) 32) (.var 3)) (.var 1))) .nil))) [1] (.call (.cst (.bi 1)) (.cons (.sub (.attr (.var 0) 32) (.var 3)) .nil)) .nil .nil) .nil))) (.cons (.asg 5 (.tup (.cons (.sub (.attr (.var 0) 55) (.var 3)) (.cons (.var 4) .nil)))) (.cons (.iff (.cmp (.var 5) .Cf (.var 2)) (.cons (.t7 (.var 2) (.var 5) (.var 3)) .nil) .nil) (.cons (.t7 (.var 1) (.var 3) (.sub (.var 2) (.var 5))) .nil))))) (.cons (.ret (.call (.cst (.fn 60)) (.cons (.var 0) (.cons (.var 1) .nil)))) .nil)))⟩
noncomputable def X0:mN:=⟨[0,1],[],9,.cons (.asg 2 (.lst (.cons (.sub (.var 1) (.cst (.int 0))) .nil))) (.cons (.asg 3 (.dict (.cons (.sub (.var 1) (.cst (.int 0))) (.cons (.cst (.int 0)) .nil)))) (.cons (.asg 4 (.call (.cst (.cls 6)) .nil)) (.cons (.ES (.var 4) 32 (.var 4) 55 (.tup (.cons (.lst .nil) (.cons (.lst .nil) .nil)))) (.cons (.ET (.cmp (.call (.cst (.bi 0)) (.cons (.attr (.var 4) 32) .nil)) .lt (.call (.cst (.bi 0)) (.cons (.var 2) .nil))) (.cons (.asg 5 (.sub (.var 2) (.call (.cst (.bi 0)) (.cons (.attr (.var 4) 32) .nil)))) (.cons (.asg 6 (.dict .nil)) (.cons (.kg [7] (.call (.cst (.bi 1)) (.cons (.sub (.attr (.var 0) 32) (.var 5)) .nil)) (.cons (.asg 8 (.sub (.var 1) (.sub (.sub (.attr (.var 0) 32) (.var 5)) (.var 7)))) (.cons (.iff (.cmp (.var 8) .Cf (.var 3)) (.cons (.t7 (.var 3) (.var 8) (.call (.cst (.bi 0)) (.cons (.var 2) .nil))) (.cons (.ex (.fL (.var 2) 0 (.cons (.var 8) .nil))) .nil)) .nil) (.cons (.t7 (.var 6) (.var 7) (.sub (.var 3) (.var 8))) .nil)))) (.cons (.ex (.fL (.attr (.var 4) 32) 0 (.cons (.var 6) .nil))) (.cons (.ex (.fL (.attr (.var 4) 55) 0 (.cons (.sub (.attr (.var 0) 55) (.var 5)) .nil))) .nil)))))) (.cons (.ret (.var 4)) .nil)))))⟩
noncomputable def X1:mN:=⟨[0,1,2,3],[],4,.cons (.iA (.var 0) 33 (.var 1)) (.cons (.iA (.var 0) 58 (.var 2)) (.cons (.iA (.var 0) 55 (.var 3)) .nil))⟩
noncomputable def X2:mN:=⟨[0,1,2],[],3,.cons (.ret (.sub (.sub (.attr (.var 0) 58) (.var 1)) (.fL (.attr (.var 0) 33) 4 (.cons (.var 2) .nil)))) .nil⟩
noncomputable def X3:mN:=⟨[0],[],4,.cons (.asg 1 (.dict .nil)) (.cons (.kg [2] (.attr (.var 0) 32) (.cons (.kg [3] (.var 2) (.cons (.t7 (.var 1) (.var 3) (.cst (.bool true))) .nil)) .nil)) (.cons (.ret (.call (.cst (.bi 6)) (.cons (.comp [none,none,some 0] (.tup (.cons (.var 1) (.cons (.call (.cst (.bi 5)) (.cons (.comp [none,none,some 1,some 2] (.fL (.var 3) 10 (.cons (.var 1) (.cons (.var 2) .nil))) [1] (.call (.cst (.bi 4)) (.cons (.fL (.var 2) 9 .nil) .nil)) .nil .nil) .nil)) .nil))) [1] (.call (.cst (.bi 1)) (.cons (.var 1) .nil)) .nil .nil) .nil))) .nil))⟩
noncomputable def X4:mN:=⟨[0],[],8,.cons (.asg 1 (.call (.cst (.fn 63)) (.cons (.var 0) .nil))) (.cons (.asg 2 (.dict .nil)) (.cons (.asg 3 (.dict .nil)) (.cons (.asg 4 (.lst (.cons (.call (.cst (.bi 5)) (.cons (.bin .mul (.lst (.cons (.cst (.int (-1))) .nil)) (.fL (.var 0) 9 .nil)) .nil)) .nil))) (.cons (.kg [5] (.var 1) (.cons (.asg 6 (.sub (.var 1) (.var 5))) (.cons (.iff (.cmp (.var 6) .Cf (.var 2)) (.cons (.t7 (.var 2) (.var 6) (.call (.cst (.bi 0)) (.cons (.var 4) .nil))) (.cons (.ex (.fL (.var 4) 0 (.cons (.var 6) .nil))) .nil)) .nil) (.cons (.t7 (.var 3) (.var 5) (.sub (.var 2) (.var 6))) .nil)))) (.cons (.asg 7 (.comp [none,none,some 4] (.comp [none,none,some 1] (.sub (.var 1) (.var 2)) [1] (.var 2) .nil .nil) [1] (.call (.cst (.bi 4)) (.cons (.fL (.var 0) 9 .nil) .nil)) .nil .nil)) (.cons (.ret (.call (.cst (.cls 8)) (.cons (.call (.cst (.cls 0)) (.cons (.var 3) .nil)) (.cons (.var 7) (.cons (.call (.cst (.bi 10)) (.cons (.attr (.var 0) 55) .nil)) .nil))))) .nil))))))⟩
noncomputable def X5:mN:=⟨[0,1],[],8,.cons (.asg 2 (.lst .nil)) (.cons (.asg 3 (.cst (.int 0))) (.cons (.ET (.cmp (.var 3) .lt (.call (.cst (.bi 0)) (.cons (.var 1) .nil))) (.cons (.ta [4,5,6] (.tup (.cons (.cst (.int 0)) (.cons (.bin .add (.var 3) (.cst (.int 1))) (.cons (.sub (.var 1) (.var 3)) .nil))))) (.cons (.asg 7 (.var 3)) (.cons (.ET (.cmp (.var 7) .lt (.call (.cst (.bi 0)) (.cons (.var 1) .nil))) (.cons (.asg 4 (.fL (.var 0) 10 (.cons (.var 4) (.cons (.sub (.var 1) (.var 7)) .nil)))) (.cons (.iff (.cmp (.var 4) .eq (.cst (.int (-1)))) (.cons .brk .nil) .nil) (.cons (.asg 7 (.bin .add (.var 7) (.cst (.int 1)))) (.cons (.iff (.cmp (.sub (.attr (.var 0) 55) (.var 4)) .ne (.cst (.int (-1)))) (.cons (.ta [5,6] (.tup (.cons (.var 7) (.cons (.sub (.attr (.var 0) 55) (.var 4)) .nil)))) .nil) .nil) .nil))))) (.cons (.ex (.fL (.var 2) 0 (.cons (.var 6) .nil))) (.cons (.asg 3 (.var 5)) .nil)))))) (.cons (.ret (.var 2)) .nil)))⟩
noncomputable def X6:mN:=⟨[0,1,2,3,4,5],[.none,.none],6,.cons (.iA (.var 0) 33 (.var 1)) (.cons (.iA (.var 0) 59 (.var 2)) (.cons (.iA (.var 0) 54 (.var 3)) (.cons (.iA (.var 0) 60 (.ite (.cmp (.var 4) .Sl (.cst .none)) (.dict .nil) (.var 4))) (.cons (.iA (.var 0) 61 (.ite (.cmp (.var 5) .Sl (.cst .none)) (.dict .nil) (.var 5))) .nil))))⟩
noncomputable def X7:mN:=⟨[0,1],[],3,.cons (.asg 2 (.fL (.attr (.var 0) 33) 4 (.cons (.var 1) .nil))) (.cons (.ret (.ite (.EP (.cst (.int 1)) .le (.var 2) .le (.cst (.int 4))) (.var 2) (.cst (.int 0)))) .nil)⟩
noncomputable def X8:mN:=⟨[],[],0,.cons (.ret (.call (.cst (.cls 9)) (.cons (.call (.cst (.cls 0)) (.cons (.dict .nil) .nil)) (.cons (.call (.cst (.cls 0)) (.cons (.dict .nil) .nil)) (.cons (.lst .nil) .nil))))) .nil⟩
noncomputable def X9:mN:=⟨[0,1],[],4,.cons (.iff (.cmp (.sub (.var 0) (.cst (.int 2))) .eq (.cst (.int 0))) (.cons (.asg 2 (.sub (.sub (.var 0) (.cst (.int 0))) (.bin .mod (.sub (.var 0) (.cst (.int 1))) (.call (.cst (.bi 0)) (.cons (.sub (.var 0) (.cst (.int 0))) .nil))))) (.cons (.t7 (.var 0) (.cst (.int 1)) (.bin .add (.sub (.var 0) (.cst (.int 1))) (.cst (.int 1)))) (.cons (.t7 (.var 0) (.cst (.int 2)) (.bin .add (.bin .add (.bin .add (.bin .mul (.cst (.int 2)) (.call (.cst (.bi 8)) (.cons (.var 2) .nil))) (.ite (.cmp (.var 2) .lt (.cst (.int 0))) (.cst (.int 1)) (.cst (.int 0)))) (.bin .mul (.bin .mul (.cst (.int 7919)) (.sub (.var 0) (.cst (.int 1)))) (.sub (.var 0) (.cst (.int 1))))) (.cst (.int 1)))) .nil))) .nil) (.cons (.asg 3 (.bin .mod (.sub (.var 0) (.cst (.int 2))) (.var 1))) (.cons (.t7 (.var 0) (.cst (.int 2)) (.bin .fdiv (.sub (.var 0) (.cst (.int 2))) (.var 1))) (.cons (.ret (.var 3)) .nil)))⟩
noncomputable def X':mN:=⟨[0],[],5,.cons (.asg 1 (.dict .nil)) (.cons (.asg 2 (.tup .nil)) (.cons (.kg [3] (.call (.cst (.bi 4)) (.cons (.call (.cst (.fn 72)) (.cons (.var 0) (.cons (.cst (.int 6)) .nil))) .nil)) (.cons (.asg 4 (.call (.cst (.bi 5)) (.cons (.comp [none,none,some 0] (.bin .add (.cst (.int 1)) (.call (.cst (.fn 72)) (.cons (.var 2) (.cons (.cst (.int 5)) .nil)))) [1] (.call (.cst (.bi 4)) (.cons (.bin .add (.cst (.int 1)) (.call (.cst (.fn 72)) (.cons (.var 0) (.cons (.cst (.int 4)) .nil)))) .nil)) .nil .nil) .nil))) (.cons (.iff (.and (.cmp (.var 2) .ne (.tup .nil)) (.cmp (.call (.cst (.fn 72)) (.cons (.var 0) (.cons (.cst (.int 3)) .nil))) .eq (.cst (.int 0)))) (.cons (.asg 4 (.bin .add (.tZ (.var 2) (.cst .none) (.cst (.int 3))) (.tZ (.var 4) (.cst .none) (.cst (.int 1))))) .nil) .nil) (.cons (.asg 2 (.var 4)) (.cons (.ex (.fL (.fL (.var 1) 2 (.cons (.sub (.var 4) (.cst (.int 0))) (.cons (.lst .nil) .nil))) 0 (.cons (.tup (.cons (.tZ (.var 4) (.cst (.int 1)) (.cst .none)) (.cons (.bin .add (.cst (.int 10)) (.call (.cst (.fn 72)) (.cons (.var 0) (.cons (.cst (.int 3)) .nil)))) .nil))) .nil))) .nil))))) (.cons (.ret (.var 1)) .nil)))⟩
noncomputable def X_:mN:=⟨[0],[],6,.cons (.asg 1 (.lst .nil)) (.cons (.kg [2] (.var 0) (.cons (.asg 3 (.lst .nil)) (.cons (.kg [4,5] (.sub (.var 0) (.var 2)) (.cons (.iff (.not (.call (.cst (.bi 7)) (.cons (.comp [none,none,some 4] (.cmp (.tZ (.var 2) (.cst .none) (.call (.cst (.bi 0)) (.cons (.var 1) .nil))) .eq (.var 1)) [1] (.var 3) .nil .nil) .nil))) (.cons (.ex (.fL (.var 3) 0 (.cons (.var 4) .nil))) (.cons (.ex (.fL (.var 1) 0 (.cons (.tup (.cons (.bin .add (.tup (.cons (.var 2) .nil)) (.var 4)) (.cons (.var 5) .nil))) .nil))) .nil)) .nil) .nil)) .nil))) (.cons (.ret (.call (.cst (.bi 1)) (.cons (.var 1) .nil))) .nil))⟩
noncomputable def Ya:mN:=⟨[0,1],[],9,.cons (.asg 2 (.lst .nil)) (.cons (.asg 3 (.cst (.int 0))) (.cons (.ET (.cmp (.var 3) .lt (.call (.cst (.bi 0)) (.cons (.var 1) .nil))) (.cons (.ta [4,5] (.tup (.cons (.bin .add (.var 3) (.cst (.int 1))) (.cons (.sub (.var 1) (.var 3)) .nil)))) (.cons (.kg [6] (.rev (.var 0)) (.cons (.kg [7,8] (.rev (.fL (.var 6) 1 (.cons (.sub (.var 1) (.var 3)) (.cons (.lst .nil) .nil)))) (.cons (.iff (.cmp (.tZ (.var 1) (.bin .add (.var 3) (.cst (.int 1))) (.bin .add (.bin .add (.var 3) (.cst (.int 1))) (.call (.cst (.bi 0)) (.cons (.var 7) .nil)))) .eq (.call (.cst (.bi 10)) (.cons (.var 7) .nil))) (.cons (.ta [4,5] (.tup (.cons (.bin .add (.bin .add (.var 3) (.cst (.int 1))) (.call (.cst (.bi 0)) (.cons (.var 7) .nil))) (.cons (.var 8) .nil)))) .nil) .nil) .nil)) .nil)) (.cons (.ex (.fL (.var 2) 0 (.cons (.var 5) .nil))) (.cons (.asg 3 (.var 4)) .nil))))) (.cons (.ret (.var 2)) .nil)))⟩
noncomputable def Yb:mN:=⟨[0,1],[],8,.cons (.asg 2 (.call (.cst (.cls 2)) (.cons (.comp [none,none,some 1] (.call (.cst (.cls 1)) (.cons (.cst (.int 0)) (.cons (.sub (.var 2) (.var 1)) (.cons (.var 1) .nil)))) [1] (.call (.cst (.bi 4)) (.cons (.call (.cst (.bi 0)) (.cons (.var 1) .nil)) .nil)) .nil .nil) .nil))) (.cons (.kg [3] (.attr (.var 2) 28) (.cons (.iA (.var 3) 36 (.cst (.int 1))) .nil)) (.cons (.asg 4 (.call (.cst (.cls 3)) (.cons (.cst (.str [108,105,103,97,116,117,114,101])) (.cons (.cst (.int 0)) (.cons (.cst (.int 0)) (.cons (.lst (.cons (.var 0) .nil)) .nil)))))) (.cons (.asg 5 (.call (.cst (.cls 4)) (.cons (.var 2) (.cons (.call (.cst (.fn 71)) .nil) (.cons (.lst (.cons (.var 4) .nil)) (.cons (.var 4) (.cons (.cst (.int 1)) .nil))))))) (.cons (.asg 6 (.cst (.int 0))) (.cons (.ET (.cmp (.var 6) .lt (.call (.cst (.bi 0)) (.cons (.attr (.var 2) 28) .nil))) (.cons (.asg 7 (.call (.cst (.fn 42)) (.cons (.var 5) (.cons (.var 0) (.cons (.var 6) .nil))))) (.cons (.asg 6 (.ite (.cmp (.var 7) .ge (.cst (.int 0))) (.var 7) (.bin .add (.var 6) (.cst (.int 1))))) .nil))) (.cons (.ret (.fL (.var 2) 6 .nil)) .nil))))))⟩
noncomputable def Yc:mN:=⟨[0,1,2],[],7,.cons (.asg 3 (.call (.cst (.cls 7)) (.cons (.var 0) .nil))) (.cons (.asg 4 (.lst .nil)) (.cons (.kg [5] (.var 2) (.cons (.asg 4 (.bin .add (.var 4) (.fL (.var 3) 13 (.cons (.var 5) .nil)))) (.cons (.asg 6 (.call (.cst (.bi 5)) (.cons (.attr (.var 3) 57) .nil))) (.cons (.iff (.and (.cmp (.var 6) .ne (.tup .nil)) (.not (.call (.cst (.bi 7)) (.cons (.comp [none,none,none,some 6] (.and (.cmp (.call (.cst (.bi 0)) (.cons (.var 1) .nil)) .gt (.call (.cst (.bi 0)) (.cons (.var 3) .nil))) (.cmp (.tZ (.var 1) (.cst .none) (.call (.cst (.bi 0)) (.cons (.var 3) .nil))) .eq (.var 3))) [1,2] (.var 1) .nil .nil) .nil)))) (.cons (.ret (.cst .none)) .nil) .nil) .nil)))) (.cons (.ret (.bin .add (.var 4) (.fL (.var 3) 14 .nil))) .nil)))⟩
noncomputable def Yd:mN:=⟨[0,1],[],2,.cons (.ret (.call (.cst (.bi 5)) (.cons (.comp [none,none,none,some 1] (.tup (.cons (.tZ (.var 1) (.call (.cst (.bi 0)) (.cons (.var 3) .nil)) (.cst .none)) (.cons (.var 2) .nil))) [1,2] (.var 0) (.cons (.cmp (.tZ (.var 1) (.cst .none) (.call (.cst (.bi 0)) (.cons (.var 3) .nil))) .eq (.var 3)) .nil) .nil) .nil))) .nil⟩
noncomputable def Ye:mN:=⟨[0],[],8,.cons (.asg 1 (.bin .add (.lst (.cons (.tup .nil) .nil)) (.comp [none,none,none,none] (.tZ (.var 1) (.cst .none) (.bin .add (.var 3) (.cst (.int 1)))) [1,2] (.var 0) .nil (.cons [3] (.call (.cst (.bi 4)) (.cons (.call (.cst (.bi 0)) (.cons (.var 1) .nil)) .nil)) .nil .nil)))) (.cons (.asg 2 (.lst .nil)) (.cons (.kg [3] (.var 1) (.cons (.asg 4 (.call (.cst (.fn 78)) (.cons (.var 0) (.cons (.var 3) .nil)))) (.cons (.iff (.cmp (.var 4) .Cf (.var 2)) (.cons (.ex (.fL (.var 2) 0 (.cons (.var 4) .nil))) .nil) .nil) .nil))) (.cons (.asg 5 (.lst (.cons (.call (.cst (.bi 5)) (.cons (.comp [none,none] (.tup .nil) [1] (.var 2) .nil .nil) .nil)) .nil))) (.cons (.kg [6] (.call (.cst (.bi 4)) (.cons (.cst (.int 1)) (.cons (.cst (.int 6)) .nil))) (.cons (.asg 7 (.call (.cst (.bi 5)) (.cons (.comp [none,none,some 6] (.call (.cst (.fn 78)) (.cons (.var 1) (.cons (.tup (.cons (.var 2) .nil)) .nil))) [1] (.var 2) .nil .nil) .nil))) (.cons (.iff (.cmp (.var 7) .Cf (.var 5)) (.cons (.ex (.fL (.var 5) 0 (.cons (.var 7) .nil))) .nil) .nil) .nil))) (.cons (.ret (.tup (.cons (.call (.cst (.bi 0)) (.cons (.var 2) .nil)) (.cons (.call (.cst (.bi 0)) (.cons (.var 5) .nil)) .nil)))) .nil)))))⟩
noncomputable def Yf:mN:=⟨[0,1],[],7,.cons (.asg 2 (.cst (.int 1))) (.cons (.kg [3] (.call (.cst (.bi 4)) (.cons (.call (.cst (.bi 0)) (.cons (.var 0) .nil)) .nil)) (.cons (.kg [4] (.call (.cst (.bi 1)) (.cons (.sub (.var 0) (.var 3)) .nil)) (.cons (.iff (.or (.cmp (.var 3) .ge (.var 2)) (.cmp (.sub (.sub (.var 0) (.var 3)) (.var 4)) .gt (.var 2))) (.cons (.ret (.cst (.bool false))) .nil) .nil) (.cons (.asg 2 (.call (.cst (.bi 3)) (.cons (.var 2) (.cons (.bin .add (.sub (.sub (.var 0) (.var 3)) (.var 4)) (.cst (.int 1))) .nil)))) .nil))) .nil)) (.cons (.asg 5 (.cst (.int 0))) (.cons (.kg [6] (.var 1) (.cons (.iff (.cmp (.var 6) .gt (.bin .add (.var 5) (.cst (.int 1)))) (.cons (.ret (.cst (.bool false))) .nil) .nil) (.cons (.asg 5 (.call (.cst (.bi 3)) (.cons (.var 5) (.cons (.var 6) .nil)))) .nil))) (.cons (.ret (.cmp (.var 2) .eq (.call (.cst (.bi 0)) (.cons (.var 0) .nil)))) .nil))))⟩
noncomputable def Yg:mN:=⟨[0],[],12,.cons (.asg 1 (.lst (.cons (.bin .add (.comp [none,none] (.call (.cst (.bi 9)) (.cons (.var 1) .nil)) [1] (.tZ (.var 0) (.cst .none) (.cst (.int 40))) .nil .nil) (.lst (.cons (.cst (.int 26)) (.cons (.cst (.int 17)) .nil)))) (.cons (.cst (.int 0)) (.cons (.cst (.int 0)) .nil))))) (.cons (.asg 2 (.lst (.cons (.call (.cst (.fn 73)) (.cons (.var 1) .nil)) (.cons (.call (.cst (.fn 73)) (.cons (.var 1) .nil)) .nil)))) (.cons (.asg 3 (.comp [none,none] (.call (.cst (.fn 47)) (.cons (.call (.cst (.cls 5)) (.cons (.var 1) .nil)) .nil)) [1] (.var 2) .nil .nil)) (.cons (.asg 4 (.call (.cst (.cls 5)) (.cons (.sub (.var 2) (.cst (.int 0))) .nil))) (.cons (.asg 5 (.call (.cst (.fn 74)) (.cons (.sub (.var 2) (.cst (.int 0))) .nil))) (.cons (.asg 6 (.call (.cst (.fn 59)) (.cons (.sub (.var 3) (.cst (.int 0))) .nil))) (.cons (.asg 7 (.call (.cst (.fn 64)) (.cons (.var 6) .nil))) (.cons (.iff (.or (.cmp (.call (.cst (.fn 48)) (.cons (.sub (.var 3) (.cst (.int 0))) .nil)) .ne (.var 5)) (.or (.cmp (.call (.cst (.fn 48)) (.cons (.var 6) .nil)) .ne (.var 5)) (.cmp (.fL (.call (.cst (.fn 49)) (.cons (.var 6) .nil)) 5 .nil) .ne (.fL (.var 4) 5 .nil)))) (.cons (.ret (.cst (.bool false))) .nil) .nil) (.cons (.iff (.or (.cmp (.tup (.cons (.fL (.var 6) 9 .nil) (.cons (.call (.cst (.bi 0)) (.cons (.sub (.attr (.var 7) 58) (.cst (.int 0))) .nil)) .nil))) .ne (.call (.cst (.fn 79)) (.cons (.var 5) .nil))) (.cmp (.call (.cst (.bi 0)) (.cons (.attr (.var 7) 58) .nil)) .ne (.fL (.var 6) 9 .nil))) (.cons (.ret (.cst (.bool false))) .nil) .nil) (.cons (.asg 8 (.call (.cst (.fn 50)) (.cons (.var 6) .nil))) (.cons (.iff (.cmp (.var 8) .ne (.call (.cst (.bi 6)) (.cons (.comp [none,none,none,some 5] (.tup (.cons (.var 2) (.cons (.comp [none,none,none,some 2] (.var 1) [1,2] (.var 3) (.cons (.cmp (.var 2) .eq (.var 3)) .nil) .nil) .nil))) [1,2] (.var 5) .nil .nil) .nil))) (.cons (.ret (.cst (.bool false))) .nil) .nil) (.cons (.iff (.not (.call (.cst (.fn 80)) (.cons (.attr (.var 6) 32) (.cons (.comp [none,none,some 7] (.fL (.attr (.var 2) 33) 4 (.cons (.var 1) .nil)) [1] (.call (.cst (.bi 4)) (.cons (.cst (.int 1)) (.cons (.cst (.int 6)) .nil))) .nil .nil) .nil)))) (.cons (.ret (.cst (.bool false))) .nil) .nil) (.cons (.kg [9] (.call (.cst (.bi 4)) (.cons (.cst (.int 3)) .nil)) (.cons (.asg 10 (.comp [none,none,some 1] (.bin .add (.cst (.int 1)) (.call (.cst (.fn 72)) (.cons (.var 2) (.cons (.cst (.int 5)) .nil)))) [1] (.call (.cst (.bi 4)) (.cons (.call (.cst (.fn 72)) (.cons (.var 1) (.cons (.cst (.int 8)) .nil))) .nil)) .nil .nil)) (.cons (.iff (.cmp (.var 5) .ne (.lst .nil)) (.cons (.asg 10 (.bin .add (.bin .add (.var 10) (.call (.cst (.bi 10)) (.cons (.sub (.sub (.var 5) (.call (.cst (.fn 72)) (.cons (.var 1) (.cons (.call (.cst (.bi 0)) (.cons (.var 5) .nil)) .nil)))) (.cst (.int 0))) .nil))) (.tZ (.var 10) (.cst .none) (.cst (.int 1))))) .nil) .nil) (.cons (.asg 11 (.call (.cst (.fn 75)) (.cons (.tZ (.var 2) (.cst .none) (.cst (.int 1))) (.cons (.var 10) .nil)))) (.cons (.iff (.or (.cmp (.call (.cst (.fn 53)) (.cons (.sub (.var 3) (.cst (.int 0))) (.cons (.var 10) .nil))) .ne (.var 11)) (.or (.cmp (.call (.cst (.fn 65)) (.cons (.var 7) (.cons (.var 10) .nil))) .ne (.var 11)) (.cmp (.call (.cst (.fn 77)) (.cons (.var 6) (.cons (.var 5) (.cons (.var 10) .nil)))) .ne (.var 11)))) (.cons (.ret (.cst (.bool false))) .nil) .nil) (.cons (.iff (.and (.cmp (.var 9) .eq (.cst (.int 0))) (.cmp (.call (.cst (.fn 76)) (.cons (.var 4) (.cons (.var 10) .nil))) .ne (.var 11))) (.cons (.ret (.cst (.bool false))) .nil) .nil) (.cons (.iff (.cmp (.call (.cst (.fn 52)) (.cons (.var 3) (.cons (.var 10) .nil))) .ne (.call (.cst (.fn 75)) (.cons (.var 2) (.cons (.var 10) .nil)))) (.cons (.ret (.cst (.bool false))) .nil) .nil) .nil))))))) (.cons (.ret (.cst (.bool true))) .nil)))))))))))))⟩
noncomputable def Wa:List mN:=[noFn,c1,c2,noFn,noFn,c5,c6,noFn,noFn,c9,Tj,noFn,noFn,Xi,noFn,Xj,Xk,Xl,Xm,noFn,Xn,noFn,Xo,Xp,Xq,Xr,Vr,Xs,Xt,Xu,Xv,Xw,Xx,Xy,Xz,XA,XB,XC,noFn,XD,XE,XF,XG,XH,XI,XJ,XK,XM,XN,XO,XP,XQ,XR,XS,XT,XU,XW,XX,XY,XZ,X0,X1,X2,X3,X4,X5,X6,X7,noFn,noFn,noFn,X8,X9,X',X_,Ya,Yb,Yc,Yd,Ye,Yf,Yg]
noncomputable def Wb:List Qp:=[⟨[(4,2),(20,3),(19,4),(5,5)],1⟩,⟨[(21,7),(5,8)],6⟩,⟨[(6,10),(22,11),(5,12),(7,13),(23,14)],9⟩,⟨[(5,19)],18⟩,⟨[],20⟩,⟨[(5,35)],34⟩,⟨[(8,44),(9,45),(10,46)],43⟩,⟨[(11,55),(12,56),(13,57),(14,58)],54⟩,⟨[(10,62)],61⟩,⟨[(15,67),(16,68),(17,69),(5,70)],66⟩]
noncomputable def PG:UN:=⟨Wa,Wb⟩
variable {b:AS} {aw:Bool} {bK:Bool->AS->Prop}
theorem tb (h:∃t,nM b (.bool aw) t/\bK t b):bK aw b:=by refine eS h λt h q=>?_;rcases h with ⟨⟩;exact q
theorem AS.le_refl (a:AS):eD a a:=λ_ _ h=>h
open Mine.AS renaming le_refl->ec
variable {q ax:AS}
theorem AS.le_trans (h:eD b q) (a:eD q ax):eD b ax:=λx o e=>a x o (h x o e)
open Mine.AS renaming le_trans->b4
theorem AS.ff (b:AS) (a:Nat) (o:AO):b.set a o a=some o:=by simp [va]
open Mine.AS renaming ff->gW
variable {ay:AO}
theorem AS.fF (h:d≠a):b.set a ay d=b d:=by simp [va,h]
open Mine.AS renaming fF->gv
theorem AS.ij (h:b a=none):eD b (b.set a ay):=λx d e=>by
 by_cases c:x=a
 .subst c;rw [h] at e;contradiction
 .rw [gv c];exact e
open Mine.AS renaming ij->mU
theorem AS.fy (c:eD b q) (h:q a=none):b a=none:=by
 induction e:b a with
 |none=>rfl
 |some o=>rw [c a o e] at h;contradiction
open Mine.AS renaming fy->jE
theorem AS.Ha (d:eD b q) (h:q.free a):b.free a:=
 ⟨jE d h.1,λf c g e=>h.2 f c g (d _ _ e)⟩
theorem AS.set_set (c:AS) (a:Nat) (o d:AO):(c.set a o).set a d=c.set a d:=by
 funext b;simp only [va];split<;>rfl
open Mine.AS renaming set_set->Oe
theorem AS.set_same (h:b a=some ay):b.set a ay=b:=by
 funext c;simp only [va];split
 .next e=>subst e;exact h.symm
 .rfl
theorem AS.free.ne (h:b.free a) (e:b d=some ay):d≠a:=λq=>by subst q;rw [h.1] at e;contradiction
structure Base where
 prog:GB
 w:Yv
 h₀:vX
 K:zt
 fa:Nat->gX
 ca:Nat->gX
 mg:j7->Option eH
 mb:j7->Option eH
 os:Wr
 tab:gX
 lc:gX
 EW:j7
 Hb:j7
noncomputable def Ap:Nat->eH
 |0=>.builtin "len"
 |1=>.builtin "sorted"
 |2=>.builtin "min"
 |3=>.builtin "max"
 |4=>.type "range"
 |5=>.type "tuple"
 |6=>.type "dict"
 |7=>.builtin "any"
 |8=>.builtin "abs"
 |9=>.type "int"
 |_=>.type "list"
mutual
inductive RV (B:Base) (h:vX):eH->AV->Prop where
 |none:RV B h .none .none
 |bool (b:Bool):RV B h (.bool b) (.bool b)
 |int (i:Int) (t:Tok):RV B h (.int i t) (.int i)
 |str (s:j7) (t:Tok):RV B h (.str s t) (.str s.cps.toList)
 |ref (a:gX):RV B h (.ref a) (.ref a)
 |fn (n:Nat):RV B h (.ref (B.fa n)) (.fn n)
 |cls (n:Nat):RV B h (.ref (B.ca n)) (.cls n)
 |bi (n:Nat):RV B h (Ap n) (.bi n)
 |BM {a:gX} {its:Array eH} {xs:List Int}:B.h₀.IsList a its->GC its.toList xs->its.size<=fE->RV B h (.ref a) (.BM xs)
 |pT {a:gX} {lo hi st:Int} {t u v:Tok}:IsRange h a lo hi st t u v->lo.natAbs<=1000000->hi.natAbs<=1000000->RV B h (.ref a) (.pT lo hi st)
 |tup {a:gX} {items:Array eH} {n:Nat} {xs:List AV}:h.get? a=some (gr "tuple" items n)->items.size<=fE->hU B h items.toList xs->RV B h (.ref a) (.tup xs)
inductive hU (B:Base) (h:vX):List eH->List AV->Prop where
 |nil:hU B h [] []
 |cons {v:eH} {x:AV} {vs:List eH} {xs:List AV}:RV B h v x->hU B h vs xs->hU B h (v::vs) (x::xs)
end
noncomputable def f' (o:YI):Prop:=(o.cls= .type "tuple"\/o.cls= .type "range"\/o.cls= .type "code")/\(∀es ep,o.data≠.dict es ep)/\∀v,o.data≠.cell v
variable {c:Base} {H b8:vX}
theorem Iq (m:∀a o,H.get? a=some o->f' o->b8.get? a=some o):(∀{v:eH} {x:AV},RV c H v x->RV c b8 v x)/\∀{d:List eH} {b:List AV},hU c H d b->hU c b8 d b:=by
 have k:∀{a:gX} {h g j:Int} {t u v:Tok},IsRange H a h g j t u v->h.natAbs<=1000000->g.natAbs<=1000000->RV c b8 (.ref a) (.pT h g j):=λs q p=>.pT (m _ _ s (iz (.inr (.inl rfl)) (by (repeat intro _);contradiction) (by (repeat intro _);contradiction))) q p
 have i:∀{a:gX} {f:Array eH} {n:Nat} {b:List AV},H.get? a=some (gr "tuple" f n)->f.size<=fE->hU c H f.toList b->hU c b8 f.toList b->RV c b8 (.ref a) (.tup b):=λe l _ r=>.tup (m _ _ e (iz (.inl rfl) (by (repeat intro _);contradiction) (by (repeat intro _);contradiction))) l r
 exact ⟨RV.rec (motive_1:=λv x _=>RV c b8 v x) (motive_2:=λd b _=>hU c b8 d b) .none .bool .int .str .ref .fn .cls .bi .BM k i .nil λ_ _=>.cons,
  hU.rec (motive_1:=λv x _=>RV c b8 v x) (motive_2:=λd b _=>hU c b8 d b) .none .bool .int .str .ref .fn .cls .bi .BM k i .nil λ_ _=>.cons⟩
variable {J:eH}
theorem RV.mono (b:∀a o,H.get? a=some o->f' o->b8.get? a=some o) (q:RV c H J l):RV c b8 J l:=(Iq b).1 q
variable {aj:List eH} {j:List AV}
theorem hU.mono (b:∀a o,H.get? a=some o->f' o->b8.get? a=some o) (q:hU c H aj j):hU c b8 aj j:=(Iq b).2 q
theorem hU.length (r:hU c H aj j):aj.length=j.length:=by
 induction aj generalizing j with
 |nil=>cases r;rfl
 |cons v aj b=>cases r with |cons a r=>simp [b r]
theorem hU.get (r:hU c H aj j):∀{i:Nat} {x:AV},j[i]? =some x->∃v,aj[i]? =some v/\RV c H v x:=by
 induction aj generalizing j with
 |nil=>cases r;intro i x e;simp at e
 |cons v aj b=>
  cases r with
  |cons a r=>
   intro i x e
   induction i using ji with
   |zero=>simp only [tM,jK] at e;subst e;exact ei v rfl a
   |succ d=>simp only [tN] at e⊢;exact b r e
variable {aN:List AV}
theorem hU.append {b:List eH} (r:hU c H aj j) (q:hU c H b aN):hU c H (aj++b) (j++aN):=by
 induction aj generalizing j with
 |nil=>cases r;exact q
 |cons v aj d=>cases r with |cons a r=>exact .cons a (d r)
theorem hU.take (r:hU c H aj j):∀n,hU c H (aj.take n) (j.take n):=by
 induction aj generalizing j with
 |nil=>cases r;intro n;simp;exact .nil
 |cons v aj b=>
  cases r with
  |cons a r=>intro n;induction n using ji with
   |zero=>exact .nil
   |succ n=>exact .cons a (b r n)
theorem hU.drop (r:hU c H aj j):∀n,hU c H (aj.drop n) (j.drop n):=by
 induction aj generalizing j with
 |nil=>cases r;intro n;simp;exact .nil
 |cons v aj b=>
  cases r with
  |cons a r=>intro n;induction n using ji with
   |zero=>exact .cons a r
   |succ n=>exact b r n
theorem hU.set (r:hU c H aj j) (q:RV c H J l):∀n,hU c H (aj.set n J) (j.set n l):=by
 induction aj generalizing j with
 |nil=>cases r;intro n;exact .nil
 |cons w aj b=>
  cases r with
  |cons a r=>intro n;induction n using ji with
   |zero=>exact .cons q r
   |succ n=>exact .cons a (b r n)
theorem hU.rev (r:hU c H aj j):hU c H aj.reverse j.reverse:=by
 induction aj generalizing j with
 |nil=>cases r;exact .nil
 |cons v aj b=>
  cases r with
  |cons a r=>rw [nI,nI];exact (b r).append (.cons a .nil)
noncomputable def Wc (B:Base) (h:vX) (v:eH):AV->Prop
 | .none=>v= .none
 | .bool b=>v= .bool b
 | .int i=>∃t,v= .int i t
 | .str l=>∃s t,v= .str s t/\l=s.cps.toList
 | .ref a=>v= .ref a
 | .fn n=>v= .ref (B.fa n)
 | .cls n=>v= .ref (B.ca n)
 | .bi n=>v=Ap n
 | .BM xs=>∃a its,v= .ref a/\B.h₀.IsList a its/\GC its.toList xs/\its.size<=fE
 | .tup xs=>∃a items n,v= .ref a/\h.get? a=some (gr "tuple" items n)/\items.size<=fE/\hU B h items.toList xs
 | .pT _ _ _=>True
theorem r7 (q:RV c H J l):Wc c H J l:=
 q.casesOn (motive_1:=λJ l _=>Wc c H J l) rfl (λ_=>rfl) (λ_ t=>(oJ t rfl)) (λ_ _=>(nA _ _ rfl rfl)) (λ_=>rfl) (λ_=>rfl) (λ_=>rfl) (λ_=>rfl) (λe i a=>(pf _ _ rfl e i a)) (λ_ _ _=>trivial) λe a r=>sx _ _ _ rfl e a r
theorem qF (q:RV c H J .none):J= .none:=r7 q
theorem xc (q:RV c H J (.bool aw)):J= .bool aw:=r7 q
theorem Qs (q:RV c H J (.fn a)):J= .ref (c.fa a):=r7 q
theorem Lz (q:RV c H J (.cls a)):J= .ref (c.ca a):=r7 q
theorem Qt (q:RV c H J (.bi a)):J=Ap a:=r7 q
theorem gn (q:RV c H J (.int p)):∃t,J= .int p t:=r7 q
theorem Aq (q:RV c H J (.str C)):∃s t,J= .str s t/\C=s.cps.toList:=r7 q
theorem iB (q:RV c H J (.tup j)):∃a b n,J= .ref a/\H.get? a=some (gr "tuple" b n)/\b.size<=fE/\hU c H b.toList j:=r7 q
variable {a8:List Int}
theorem LA (q:RV c H J (.BM a8)):∃a b,J= .ref a/\c.h₀.IsList a b/\GC b.toList a8/\b.size<=fE:=r7 q
variable {z:gX}
theorem gM (q:RV c H J (.ref z)):J= .ref z:=r7 q
noncomputable def Tn (B:Base) (h:vX) (vs:List eH):List AV->Prop
 |[]=>vs=[]
 |x::xs=>∃v us,vs=v::us/\RV B h v x/\hU B h us xs
theorem Ir (q:hU c H aj j):Tn c H aj j:=
 q.casesOn (motive_2:=λaj j _=>Tn c H aj j) rfl λa b=>nr _ _ rfl a b
theorem Dr (q:hU c H aj []):aj=[]:=Ir q
theorem xd (q:hU c H aj (l::j)):∃v a,aj=v::a/\RV c H v l/\hU c H a j:=Ir q
theorem EX (q:hU c H [] j):j=[]:=by
 induction j using ej with
 |nil=>rfl
 |cons x j=>refine i5 (xd q) λv a e _=>?_;injection e
theorem yf (q:hU c H (J::aj) j):∃x d,j=x::d/\RV c H J x/\hU c H aj d:=by
 induction j using ej with
 |nil=>have:=Dr q;contradiction
 |cons x j=>
  refine jS (xd q) λw h e a b=>?_
  injection e with g f
  exact nr x j rfl (g▸a) (f▸b)
theorem LD (q:GC aj a8):hU c H aj (a8.map .int):=by
 induction q with
 |nil=>exact .nil
 |cons i t _ a=>exact .cons (.int i t) a
noncomputable def t8 (B:Base):KeyKind B.prog B.w Int:=Wj B.prog B.w
mutual
noncomputable def toPy:AV->PyData
 | .int i=>.int i
 | .str s=>.str ⟨s.toArray⟩
 | .tup xs=>.tuple (jW xs)
 |_=>.none
noncomputable def jW:List AV->List PyData
 |[]=>[]
 |x::r=>toPy x::jW r
end
theorem OO (s:j7):(⟨s.cps.toList.toArray⟩:j7)=s:=by rcases s with ⟨⟩;simp
theorem vL (e:∀x∈j,∀v,RV c H v x->∃d,Yy H v (toPy x) d) (r:hU c H aj j):∃d,ReadsAll H aj (jW j) d:=by
 induction j generalizing aj with
 |nil=>rw [Dr r];exact oJ _ .nil
 |cons x j f=>
  refine v9 aj (xd r) λv i a b=>?_
  refine j_ (e _ (.head _) v a) λd q=>?_
  exact j_ (f (λx g=>e x (.tail _ g)) b) λh p=>oJ _ (.cons q p)
theorem jX (p:jk a l) (r:RV c H J l):∃b,Yy H J (toPy l) b:=by
 induction p generalizing J with
 |int _ i=>refine rY J (gn r) λt=>?_;exact oJ _ (.int i t)
 |str _ s _=>
  refine i5 (Aq r) λu t g f=>?_
  rw [g,f]
  show ∃b,Yy H _ (.str ⟨u.cps.toList.toArray⟩) b
  rw [OO]
  exact oJ _ (.str u t)
 |tup k v n d=>
  refine g0 J (iB r) λo j m e _ q=>?_
  exact j_ (vL (λl h J r=>d l h r) q) λb q=>oJ b (.tuple e rfl rfl q)
theorem xe (e:∀x∈j,jk a x) (r:hU c H aj j):∃b,ReadsAll H aj (jW j) b:=
 vL (λx d _ r=>jX (e x d) r) r
theorem y9 (e:∀x∈j,(toPy x).canLay0=true/\(toPy x).depth<=a):xT (jW j)=true/\qq (jW j)<=a:=by
 induction j with
 |nil=>exact ⟨rfl,ft _⟩
 |cons x r g=>
  refine iK (e x (.head _)) λf b=>iK (g λy h=>e y (.tail _ h)) λc d=>?_
  exact ⟨(eV _ _).mpr ⟨f,c⟩,Nat.max_le.mpr ⟨b,d⟩⟩
theorem iu (p:jk a l):(toPy l).canLay0=true/\(toPy l).depth<=a:=by
 induction p with
 |int _ i=>exact ⟨rfl,ft _⟩
 |str _ s e=>
  refine ⟨?_,ft _⟩
  show Qd _=true
  unfold Qd
  simp only [Array.all_eq_true,decide_eq_true_eq,List.getElem_toArray]
  exact λi f=>eh (e _ (fN _)) (by decide)
 |tup k g h c=>exact iK (y9 c) λd b=>⟨d,fg b⟩
theorem v_ (c:∀x∈j,jk a x):xT (jW j)=true/\qq (jW j)<=a:=y9 λx b=>iu (c x b)
theorem Cp:∀{a:List AV},(∀x∈j,∀y∈a,(mS (toPy x) (toPy y)=true↔x=y))->(sl (jW j) (jW a)=true↔j=a):=by
 induction j with
 |nil=>
  intro a _
  induction a using ej with
  |nil=>exact ⟨λ_=>rfl,λ_=>rfl⟩
  |cons y a=>exact ⟨by intros;contradiction,by intros;contradiction⟩
 |cons x j c=>
  intro a b
  induction a using ej with
  |nil=>exact ⟨by intros;contradiction,by intros;contradiction⟩
  |cons y a=>
   refine (qx.trans (and_congr (b x (.head _) y (.head _)) (c λz d u e=>b z (.tail _ d) u (.tail _ e)))).trans ?_
   exact ⟨λh=>h.1▸h.2▸rfl,λh=>⟨EE h,List.tail_eq_of_cons_eq h⟩⟩
theorem xf (c:jk a l) (b:jk d af):(mS (toPy l) (toPy af)=true↔l=af):=by
 induction c generalizing d af with
 |int _ i=>
  induction b using jk.casesOn with
  |int _ j=>exact beq_iff_eq.trans ⟨congrArg _,AV.int.inj⟩
  |_=>exact ⟨by intros;contradiction,by intros;contradiction⟩
 |str _ s _=>
  induction b using jk.casesOn with
  |str _ t _=>exact beq_iff_eq.trans ⟨λe=>congrArg AV.str (congrArg (λz:j7=>z.cps.toList) e),λe=>AV.str.inj e▸rfl⟩
  |_=>exact ⟨by intros;contradiction,by intros;contradiction⟩
 |tup m h c f=>
  induction b using jk.casesOn with
  |tup j k g=>exact (show sl (jW h) (jW k)=true↔_ from Cp λl o af n=>f l o (g af n)).trans ⟨congrArg _,AV.tup.inj⟩
  |_=>exact ⟨by intros;contradiction,by intros;contradiction⟩
theorem EY (b:∀x∈j,jk a x) (e:∀y∈aN,jk d y):(sl (jW j) (jW aN)=true↔j=aN):=
 Cp λx f y c=>xf (b x f) (e y c)
theorem Iu (c:Plain l):(∀x∈j,Plain x)->(((jW j).any λy=>mS y (toPy l))=true↔l∈j):=by
 induction j with
 |nil=>exact λ_=>⟨by intros;contradiction,by intros;contradiction⟩
 |cons x r b=>
  intro a
  show (mS (toPy x) (toPy l)||_)=true↔_
  rw [j1,eK,xf (a x (.head _)) c,b λy d=>a y (.tail _ d)]
  exact or_congr_left ⟨rH,rH⟩
mutual
noncomputable def Iv:AV->Int
 | .int i=>hashInt i
 | .tup xs=>QS (qd (wa xs))
 |_=>0
noncomputable def wa:List AV->List Int
 |[]=>[]
 |x::r=>Iv x::wa r
end
mutual
noncomputable def Ds:AV->Nat
 | .tup xs=>rJ xs+1
 |_=>1
noncomputable def rJ:List AV->Nat
 |[]=>0
 |x::r=>Ds x+rJ r
end
theorem BO:∀(b a:List AV),wa (b++a)=wa b++wa a:=by
 intro d
 induction d with
 |nil=>
  intro _
  exact rfl
 |cons x r c=>
  exact λa=>congrArg (Iv x::·) (c a)
theorem Ar:∀(b a:List AV),rJ (b++a)=rJ b+rJ a:=by
 intro d
 induction d with
 |nil=>
  exact λa=>(iW _).symm
 |cons x r c=>
  exact λa=>(congrArg (Ds x+·) (c a)).trans (fI ..).symm
variable {m:eL} {bf:Array eH}
theorem oO (h:m.heap.get? z=some (gr "tuple" bf a)):m.TypeIs (.ref z) "tuple":=ei _ h rfl
variable {aG:eH->eL->Prop}
theorem LF (G:oN a l):∀{v:eH} {A:jc} {d:eL} {Q:Int->eL->Prop},RV c d.heap v l->A.units+10*a+20<vz->
 Q (Iv l) {d with toks:=d.toks+Ds l}->f_ (hJ c.prog c.w) A (pyHash v) Q aG d:=by
 induction G with
 |int _ i=>intro v A d Q q j h;refine rY v (gn q) λt=>?_;exact wpAny_pyHash_int h
 |tup a D E C=>
  intro v A d Q q j h
  refine g0 v (iB q) λp L n g y k=>?_
  have f:d.TypeIs (.ref p) "tuple":=oO g
  unfold pyHash pyHashByItsType
  refine b5 (wpAny_cRoomFor_or (.inr (by exact u0 j)) ?_)
  refine b5 (rS f tJ.lookup ?_)
  refine nU (decide_eq_false λz=>gL ((beq_builtin_none _).symm.trans z)) ?_
  refine b5 (rS f tJ.lookup ?_)
  show f_ _ _ (callSpecialIfBoundUnlessNone? (.ref p) "__hash__" _>>= _) Q aG d
  refine b5 (wpAny_callSpecialIfBoundUnlessNone?_slot f tJ (nc tJ f F.entry_tuple_hash ?_ (F.args_tuple_hash_1 _)))
  show f_ _ _ (wN (.ref p)>>= _) _ _ d
  refine b5 (z8 g rfl ?_)
  refine b5 ?_
  rw [<-Jy]
  refine qQ _
   (λB (b:Array Int) u=>∃done left,D=done++left/\hU c d.heap B left/\b.toList=wa done/\u={d with toks:=d.toks+rJ done})
   _ ?_ ?_ _ _ (pf [] D rfl k rfl rfl)
  .clear h g y k f;intro x B b u z;refine nV z λdone left e r w m=>?_
   refine jS (yf r) λl K I H J=>?_
   rw [I] at e
   rw [m]
   refine b5 (C l (by rw [e];exact fS _ (.head _)) (d:={d with toks:=d.toks+rJ done}) H (by simp only [Around.in1_units];exact u1 j) ?_)
   refine dj (pf (done++[l]) K (e.trans (List.append_cons ..)) J (by rw [so,w,BO];rfl) ?_)
   rw [Ar,<-fI];rfl
  .intro b u z;refine nV z λdone left e r w m=>?_
   clear C j g y f E k
   rw [EX r,eR] at e
   rw [e] at h
   show f_ _ _ (retInt (qd b.toList)) _ _ _
   rw [w,m]
   refine wpAny_ret_mkInt ?_
   have h:Q (QS (qd (wa done))) {d with toks:=d.toks+(rJ done+1)}:=h
   rw [<-fI] at h
   unfold QS at h
   refine wpAny_ite_split (λo=>?_) λo=>?_
   .rw [if_pos o] at h;exact dj h
   .rw [if_neg o] at h;exact b5 (nE (dj h))
theorem JE (G:oN a l):∀{d:Nat} {v:eH} {A:jc} {s:eL} {Q:Bool->eL->Prop},a<=d->RV c s.heap v l->Q true s->f_ (hJ c.prog c.w) A (eqIsQuiet d v) Q aG s:=by
 induction G with
 |int _ i=>intro d v A s Q j q h;refine rY v (gn q) λt=>?_;rw [eqIsQuiet_byValue _ rfl];exact dj h
 |tup a C D B=>
  intro d v A s Q j q h
  refine g0 v (iB q) λp J n b u k=>?_
  have g:s.TypeIs (.ref p) "tuple":=oO b
  induction d using ji with
  |zero=>exact absurd j (Nat.not_succ_le_zero _)
  |succ d=>
  unfold eqIsQuiet
  refine b5 (rS g F.slot_tuple_eq.lookup ?_)
  show f_ _ _ (YE (.ref p) (.type "tuple")>>= _) _ _ s
  refine b5 (Sv g N1 ?_)
  refine nU rfl ?_
  refine b5 (sU b rfl ?_)
  refine b5 ?_
  show f_ _ _ (forIn J _ _) _ _ s
  rw [<-Jy]
  refine qQ _ (λw r o=>r.1=none/\o=s/\∃left,hU c s.heap w left/\∀x∈left,x∈C) _ ?_ ?_ _ _ ⟨rfl,rfl,C,k,λ_ h=>h⟩
  .clear h b u k g;intro v w r o z;refine Dj z λf e left H m=>?_
   refine jS (yf H) λl K M L N=>?_
   rw [M] at m
   rw [e]
   refine b5 (B l (m l (.head _)) (gY j) L ?_)
   refine nU rfl ?_
   exact dj ⟨rfl,rfl,K,N,λy I=>m y (.tail _ I)⟩
  .clear B D b u k g j;intro r o z;refine mV z λf e _=>?_
   obtain ⟨E,O⟩:=r
   have f:E=none:=f
   rw [f,e]
   exact dj h
theorem oN.plain (q:oN a l):jk a l:=by
 induction q with
 |int n i=>exact .int _ i
 |tup n c _ b=>exact .tup _ c b
theorem OP:∀{g:List AV} {h:List eH},(∀x∈j,∀y∈g,∀v,RV c H v x->RV c H v y->x=y)->hU c H h j->hU c H h g->j=g:=by
 induction j with
 |nil=>intro g h _ k f;rw [Dr k] at f;exact (EX f).symm
 |cons x j l=>
  intro g h i k f
  refine jS (xd k) λv q e a b=>?_
  rw [e] at f
  refine jS (yf f) λy r n m d=>?_
  rw [n] at i⊢
  exact congr (congrArg Oa (i x (.head _) y (.head _) v a m)) (l (λx o y p=>i x (.tail _ o) y (.tail _ p)) b d)
theorem JF (n:jk a l) (h:jk d af) (q:RV c H J l) (p:RV c H J af):l=af:=by
 induction n generalizing d af J with
 |int _ i=>
  refine j_ (gn q) λt f=>?_
  induction h using jk.casesOn with
  |int _ j=>exact j_ (gn p) λu e=>congrArg AV.int (Value.int.inj (f.symm.trans e)).1
  |str _ s _=>refine i5 (Aq p) λs u e _=>?_;have:=f.symm.trans e;contradiction
  |tup _ r _=>refine mW (iB p) λk _ _ e _ _ _=>?_;have:=f.symm.trans e;contradiction
 |str _ s _=>
  refine i5 (Aq q) λI t f w=>?_
  induction h using jk.casesOn with
  |int _ j=>refine j_ (gn p) λu e=>?_;have:=f.symm.trans e;contradiction
  |str _ s _=>exact i5 (Aq p) λG u e B=>congrArg AV.str (w.trans ((congrArg (λz:j7=>z.cps.toList) (Value.str.inj (f.symm.trans e)).1).trans B.symm))
  |tup _ r _=>refine mW (iB p) λk _ _ e _ _ _=>?_;have:=f.symm.trans e;contradiction
 |tup a L F A=>
  refine mW (iB q) λk E m f y _ x=>?_
  induction h using jk.casesOn with
  |int _ j=>refine j_ (gn p) λu e=>?_;have:=f.symm.trans e;contradiction
  |str _ s _=>refine i5 (Aq p) λs u e _=>?_;have:=f.symm.trans e;contradiction
  |tup _ r C=>
   refine mW (iB p) λb D K e v _ o=>?_
   rw [<-Value.ref.inj (f.symm.trans e)] at v
   have g:=d3 (y.symm.trans v)
   injection g with _ _ g _
   injection g with g _
   rw [<-g] at o
   exact congrArg AV.tup (OP (λl n af h J k b=>A l n (C af h) k b) x o)
noncomputable instance:DecidableEq AV:=λa b=>WD (a=b)
noncomputable def tupK (B:Base):HeapKind B.prog B.w AV where
 is:=λh k a=>Lw k/\RV B h (.ref a) k
 hash:=Iv
 draws:=Ds
 room:=λA=>A.units+100<vz
 inj:=λhx hy=>JF hx.1.2.plain hy.1.2.plain hx.2 hy.2
 keeps:=λx ho hd hs=>⟨x.1,x.2.mono λa o e f=>(hs.2 a λq=>by
  subst q;rw [ho] at e;(injection e with e;subst e)
  exact f.2.1 _ _ hd).trans e⟩
 pyHash:=λhu hk h=>LF hk.1.2 hk.2 (by exact ul 60 hu rfl) h
 eqBool:=λ{A E s x y a b Q} hu hx hy h=>by
  obtain ⟨as,ra⟩:=jX hx.1.2.plain hx.2
  obtain ⟨bs,rb⟩:=jX hy.1.2.plain hy.2
  refine eqBoolOverData _ _ _ _ _ _ _ _ _ _ _ _ ra rb (iu hx.1.2.plain).1 (iu hy.1.2.plain).1 ?_ ?_
  .have:=(iu hx.1.2.plain).2
   exact um hu this rfl
  .have e:mS (toPy x) (toPy y)=decide (x=y):=by
    have:=xf hx.1.2.plain hy.1.2.plain
    by_cases q:x=y
    .rw [decide_eq_true q];exact this.mpr q
    .rw [decide_eq_false q]
     cases z:mS (toPy x) (toPy y) with
     |false=>rfl
     |true=>exact absurd (this.mp z) q
   rw [e];exact h
 quiet:=λhk h=>JE hk.1.2 (by decide) hk.2 h
section
section
variable {prog:GB} {w:Yv} {K:Type} [DecidableEq K] {knd:KeyKind prog w K} {A:jc} {E:eH->eL->Prop} {s:eL}
theorem Hc {es:Array pR} {kvs:List (K×eH)} (hp:Pairs knd es.toList kvs) (k:K):(es.findIdx? λe=>knd.is k e.key)=kvs.findIdx? λkv=>decide (kv.1=k):=by
 rw [<-hp.findIdx k];clear hp;obtain ⟨l⟩:=es;simp
theorem tR {kvs:List (K×eH)} {k:K} {i:Nat} (h:(kvs.findIdx? λkv=>decide (kv.1=k))=some i):∃v,jm kvs k=some v/\kvs[i]? =some (k,v):=by
 induction kvs generalizing i with
 |nil=>simp at h
 |cons p r ih=>
  rw [KS] at h
  by_cases hk:p.1=k
  .simp only [hk,decide_true,if_true,jK] at h
   clear ih;subst h;subst hk
   exact ei p.2 (by simp [jm]) rfl
  .simp only [hk,decide_false,fW,if_false] at h
   refine iQ i (fV.mp h) λj hj=>?_
   refine eS (ih hj) λv hv he=>?_
   exact ei v (by simpa [jm,qM,hk] using hv) (by simpa using he)
theorem tS {kvs:List (K×eH)} {k:K} (h:(kvs.findIdx? λkv=>decide (kv.1=k))=none):jm kvs k=none:=by
 rw [List.findIdx?_eq_none_iff] at h
 simp only [jm,Option.map_eq_none_iff,jL]
 intro x hx;simpa using h x hx
theorem JG {es:List pR} {kvs:List (K×eH)} (hp:Pairs knd es kvs):∀{i:Nat} {p:K×eH},kvs[i]? =some p->∃e,es[i]? =some e/\e.val=p.2:=by
 induction hp with
 |nil=>intro i p h;simp at h
 |cons h1 h2 _ ih=>
  intro i p h
  induction i using ji with
  |zero=>simp only [tM,jK] at h;subst h;exact ei _ rfl h2
  |succ j=>exact ih (by simpa using h)
theorem Av {d:gX} {kvs:List (K×eH)} {k:K} {key v:eH} {ep:Nat} {pt:Option eH} {Q:Unit->eL->Prop} (hkey:knd.is k key=true) {o:YI} {es:Array pR} (ho:s.heap.get? d=some o) (hc:o.ExactDict) (hd:o.data= .dict es ep) (hk:KeysOf knd es)
 (hp:Pairs knd es.toList kvs) (hn:(kvs.map (·.1)).Nodup) (hi:(es.findIdx? λe=>knd.is k e.key)=none) (hsz:kvs.length<=x7)
 (hQ:∀h',h'.DictAt knd d (kvs++[(k,v)]) (ep+1)->iE d s.heap h'->Q () {s with heap:=h'}):
 f_ (hJ prog w) A (updateDictKeys d (·.push ⟨knd.hash k,key,v⟩) pt) Q E s:=by
 have hes:es.size<=sizeLine:=by
  have e1:=hp.length
  have e2:es.toList.length=es.size:=by simp
  exact n1 (e2.symm.trans e1) hsz
 have hnot:k∉kvs.map (·.1):=not_mem_of_findIdx_none (by rw [<-Hc hp];exact hi)
 refine wpAny_updateDictKeys (hz:=hes) ho hd (hQ _ (nX _ _ (nD _ ho (KP (Js hd _))) (hc.mapDictKeys _) (Js hd _) (hk.push hkey _) ?_ ?_) (gJ ..))
 .have:=hp.append hkey (knd.hash k) v
  clear hkey ho hc hd hk hp hn hi hsz hQ hes hnot;obtain ⟨l⟩:=es
  simpa using this
 .rw [b_,eP]
  exact iz hn (by simp) (λa ha b hb e=>by simp at hb;exact hnot (hb▸e▸ha))
theorem BP {d:gX} {kvs:List (K×eH)} {k:K} {key dflt:eH} {ep:Nat} {Q:eH->eL->Prop} (hkey:knd.is k key=true) (hm:s.heap.DictAt knd d kvs ep)
 (h1:∀v,jm kvs k=some v->Q v {s with toks:=s.toks+1})
 (h2:jm kvs k=none->∀h',h'.DictAt knd d (kvs++[(k,dflt)]) (ep+1)->iE d s.heap h'->Q dflt {s with heap:=h',toks:=s.toks+1})
 (hsz:kvs.length<=x7):f_ (hJ prog w) A (GR d key dflt) Q E s:=by
 refine iP hm λo es ho hc hd hk hp hn=>?_
 unfold GR
 try with_reducible refine f5 ?_
 refine b5 (knd.pyHash hkey ?_)
 refine b5 (R5 (s:={s with toks:=s.toks+1}) hkey ho hd hk ?_)
 have hidx:=Hc hp k
 induction hi:es.findIdx? λe=>knd.is k e.key with
 |some i=>
  refine eS (tR (hidx▸hi)) λv hv hget=>?_
  refine eS (JG hp hget) λe he hev=>?_
  refine b5 (wpAny_dictEntries (s:={s with toks:=s.toks+1}) ho hd ?_)
  rw [gE] at he
  rw [he]
  exact b5 (nE (dj (hev▸h1 v hv)))
 |none=>
  refine b5 (nE (b5 (Av (s:={s with toks:=s.toks+1}) hkey ho hc hd hk hp hn hi hsz λh' hm' hs'=>dj ?_)))
  exact h2 (tS (hidx▸hi)) h' hm' hs'
theorem wb {d:gX} {kvs:List (K×eH)} {k:K} {key v:eH} {ep:Nat} {Q:Unit->eL->Prop} (hkey:knd.is k key=true) (hm:s.heap.DictAt knd d kvs ep)
 (h1:∀h',jm kvs k≠none->h'.DictAt knd d (kvs.map λkv=>if kv.1=k then (kv.1,v) else kv) ep->iE d s.heap h'->Q () {s with heap:=h',toks:=s.toks+1})
 (h2:∀h',jm kvs k=none->h'.DictAt knd d (kvs++[(k,v)]) (ep+1)->iE d s.heap h'->Q () {s with heap:=h',toks:=s.toks+1})
 (hsz:kvs.length<=x7):f_ (hJ prog w) A (K0 d key v) Q E s:=by
 refine iP hm λo es ho hc hd hk hp hn=>?_
 unfold K0
 try with_reducible refine f5 ?_
 refine b5 (knd.pyHash hkey ?_)
 unfold dictSetHashed
 try with_reducible refine f5 ?_
 refine b5 (R5 (s:={s with toks:=s.toks+1}) hkey ho hd hk ?_)
 have hidx:=Hc hp k
 induction hi:es.findIdx? λe=>knd.is k e.key with
 |some i=>
  have hany:(kvs.any λkv=>decide (kv.1=k))=true:=any_of_findIdx_some (hidx▸hi)
  refine eS (tR (hidx▸hi)) λv₀ hv _=>?_
  refine b5 (nE (b5 (wpAny_updateDict (s:={s with toks:=s.toks+1}) ho hd (wpAny_point (h1 _ (by rw [hv];simp) (nX _ _ (nD _ ho (KP (Oy hd _))) (hc.mapDict _) (Oy hd _) (hk.modify _ _) ?_ ?_) (gJ ..))))))
  .have hl:(es.toList.findIdx? λe=>knd.is k e.key)=some i:=by rw [<-hi];clear hkey h1 h2 hsz ho hc hd hk hidx hi hany hv;obtain ⟨l⟩:=es;simp
   have:=hp.modify hn hl v
   clear hkey h1 h2 hsz ho hc hd hk hp hn hidx hi hany hv hl;obtain ⟨l⟩:=es
   simpa using this
  .have:=keys_map_store kvs k v
   rw [this];exact hn
 |none=>
  refine b5 (nE (Av (s:={s with toks:=s.toks+1}) hkey ho hc hd hk hp hn hi hsz λh' hm' hs'=>?_))
  exact h2 h' (tS (hidx▸hi)) hm' hs'
end
end
inductive RD (B:Base) (h:vX) (a:gX):List (AV×AV)->Prop where
 |int {kvs:List (Int×eH)} {pvs:List (AV×AV)}:h.DictAt (t8 B) a kvs kvs.length->hU B h (kvs.map (·.2)) (pvs.map (·.2))->pvs.map (·.1)=kvs.map (λp=>.int p.1)->RD B h a pvs
 |tup {tvs:List (AV×gX×eH)} {pvs:List (AV×AV)}:h.DictOfH (tupK B) a tvs->hU B h (tvs.map (·.2.2)) (pvs.map (·.2))->pvs.map (·.1)=tvs.map (·.1)->pvs≠[]->RD B h a pvs
inductive yg (B:Base) (h:vX):List pR->List (Nat×AV)->Prop where
 |nil:yg B h [] []
 |cons {e:pR} {x:Nat} {v:AV} {es:List pR} {fs:List (Nat×AV)} (n:j7) (t:Tok):AT[x]? =some n->e.key= .str n t->RV B h e.val v->yg B h es fs->yg B h (e::es) ((x,v)::fs)
inductive RO (B:Base) (h:vX) (a:gX):AO->Prop where
 |list {its:Array eH} {n:Nat} {xs:List AV}:h.get? a=some (listOf its n)->hU B h its.toList xs->xs.length<=fE->RO B h a (.list xs)
 |dict {kvs:List (AV×AV)}:RD B h a kvs->kvs.length<=fE->RO B h a (.dict kvs)
 |inst {c dx:Nat} {es:List pR} {n:Nat} {fs:List (Nat×AV)}:h.get? a=some (ud (B.ca c) dx)->h.get? dx=some (rx es n)->yg B h es fs->(fs.map (·.1)).Nodup->c<10->RO B h a (.inst c dx fs)
noncomputable def ic (B:Base) (st:AS) (b:gX):Prop:=st b≠none\/(∃a c fs,st a=some (.inst c b fs))\/b=B.tab
noncomputable def uz (h:vX) (cv:eH) (q:j7):Prop:=∃c o vs t,cv= .ref c/\h.get? c=some o/\f' o/\o.data= .fields vs/\vs[1]? =some (.str q t)
theorem uz.mono (x:uz H J ao) (g:∀a o,H.get? a=some o->f' o->b8.get? a=some o):uz b8 J ao:=
 yc x λc o d t e b f r=>(vd c o d t e (g c o b f) f r)
noncomputable def Iw (B:Base) (h:vX):Prop:=∃ps,h.get? B.tab=some (K5 ps)/\SJ ps.toList/\∀pos cv,yT pos ps.toList=some cv->uz h cv B.Hb
theorem Iw.mono (x:Iw c H) (g:∀a o,H.get? a=some o->f' o->b8.get? a=some o) (b:∀o,H.get? c.tab=some o->b8.get? c.tab=some o):Iw c b8:=
 gi x λps e t d=>(gq ps (b _ e) t (λp f q=>(d p f q).mono g))
structure R (B:Base) (st:AS) (s:eL):Prop where
 objs:∀a o,st a=some o->RO B s.heap a o
 old:∀b o,B.h₀.get? b=some o->s.heap.get? b=some o
 new:∀b,ic B st b->B.h₀.get? b=none
 Cq:∀a c dx fs,st a=some (.inst c dx fs)->st dx=none/\dx≠B.tab/\∀b c' fs',st b=some (.inst c' dx fs')->b=a
 vC:st B.tab=none
 tab:Iw B s.heap
 gens:s.gens=#[]
 os:s.os=B.os
structure St (B:Base) (st:AS) (s:eL) (st':AS) (s':eL):Prop where
 keep:∀b o,s.heap.get? b=some o->¬ic B st b->s'.heap.get? b=some o
 foot:∀b,ic B st' b->ic B st b\/s.heap.get? b=none
structure fH (s s':eL):Prop where
 keep:∀b o,s.heap.get? b=some o->s'.heap.get? b=some o
 gens:s'.gens=s.gens
 os:s'.os=s.os
theorem fH.refl (s:eL):fH s s:=⟨λ_ _ e=>e,rfl,rfl⟩
open Mine.fH renaming refl->g_
variable {ae aZ:eL}
theorem fH.trans (x:fH m ae) (y:fH ae aZ):fH m aZ:=⟨λp o e=>y.keep p o (x.keep p o e),y.gens.trans x.gens,y.os.trans x.os⟩
theorem fH.toks (s:eL) (t:Nat):fH s {s with toks:=t}:=⟨λ_ _ e=>e,rfl,rfl⟩
open Mine.fH renaming toks->iO
theorem fH.of_keep (c:∀b o,m.heap.get? b=some o->H.get? b=some o):fH m {m with heap:=H,toks:=a}:=⟨c,rfl,rfl⟩
open Mine.fH renaming of_keep->qA
theorem fH.push (s:eL) (o:YI):fH s {s with heap:=s.heap.push o}:=⟨λ_ _ e=>fm o e,rfl,rfl⟩
open Mine.fH renaming push->jw
theorem RV.grow {x:AV} (r:RV c m.heap J x) (g:fH m ae):RV c ae.heap J x:=r.mono λa o e _=>g.keep a o e
theorem hU.grow (r:hU c m.heap aj j) (g:fH m ae):hU c ae.heap aj j:=r.mono λa o e _=>g.keep a o e
variable {aC:List (AV×AV)}
theorem RD.mono (r:RD c H z aC) (g:∀z o,H.get? z=some o->f' o->b8.get? z=some o) (i:∀x,H.get? z=some x->b8.get? z=some x):RD c b8 z aC:=by
 induction r with
 |int d q e=>
  refine i5 d λo f b r=>?_
  exact .int (nA o f (i _ b) r) (q.mono g) e
 |tup d q e k=>
  refine s_ d λo f l b a n m h j=>?_
  exact .tup ⟨o,f,l,(i _ b),a,n,m,(λx a=>⟨(h x a).1,(h x a).2.mono g⟩),j⟩ (q.mono g) e k
theorem RD.obj (r:RD c H z aC):∃o a g,H.get? z=some o/\o.ExactDict/\o.data= .dict a g/\a.size=aC.length:=by
 induction r with
 |int d q e=>
  refine iP d λo a b f h _ i _=>?_
  exact sx o a _ b f h (by rw [<-eB,i.length];have:=congrArg fi e;simpa using this.symm)
 |tup d q e k=>
  refine oU d λo a g b f h j _=>?_
  exact sx o a g b f h (by rw [<-eB,j];have:=congrArg fi e;simpa using this.symm)
theorem RD.nodup (r:RD c H z aC):(aC.map (·.1)).Nodup:=by
 induction r with
 |int d q e=>
  refine iP d λo f b g h _ i a=>?_
  rw [e,show (λp:Int×eH=>AV.int p.1)=(AV.int∘λp:Int×eH=>p.1) from rfl,<-er]
  exact gh.mpr (l' (λH e=>H (by injection e)) a)
 |tup d q e j=>
  refine s_ d λo f k b g h l _ a=>?_
  rw [e];exact a
theorem RD.GL (r:RD c H z aC) (h:IntKeys aC):∃a,H.DictAt (t8 c) z a a.length/\hU c H (a.map (·.2)) (aC.map (·.2))/\aC.map (·.1)=a.map (λp=>.int p.1):=by
 cases r with
 |int d q e=>exact gq _ d q e
 | @tup n _ d q e b=>
  refine s_ d λo x A g k w s f l=>?_
  clear q g k w s l;clear d;induction aC using ej with
  |nil=>exact absurd rfl b
  |cons p ps=>
   clear b;induction n using ej with
   |nil=>contradiction
   |cons t y=>
    refine j_ (h p (.head _)) λi m=>?_
    have j:p.1=t.1:=by injection e
    refine iK (f t (.head _)).1 λv _=>?_;refine j_ v λB u=>?_
    rw [<-j,m] at u;contradiction
theorem RD.Vs (r:RD c H z aC) (b:∀p∈aC,Lw p.1):∃a,H.DictOfH (tupK c) z a/\hU c H (a.map (·.2.2)) (aC.map (·.2))/\aC.map (·.1)=a.map (·.1):=by
 cases r with
 |tup d q e y=>exact gq _ d q e
 | @int u _ d q e=>
  refine iP d λo f h j x s g m=>?_
  clear q s m;clear d;induction u using ej with
  |nil=>
   have n:aC=[]:=by simpa using e
   clear b e;subst n
   generalize k:f.toList=l at g
   cases g
   exact gq [] ⟨o,f,_,h,j,x,k,by simp,eI⟩ .nil rfl
  |cons t A=>
   induction aC using ej with
   |nil=>contradiction
   |cons p ps=>
    refine iK (b p (.head _)) λw _=>?_;obtain ⟨B,v⟩:=w
    have i:p.1= .int t.1:=by injection e
    rw [v] at i;contradiction
variable {bE:List pR}
theorem yg.mono (d:∀a o,H.get? a=some o->f' o->b8.get? a=some o) (q:yg c H bE aS):yg c b8 bE aS:=by
 induction q with
 |nil=>exact .nil
 |cons n t a b e _ r=>exact .cons n t a b (e.mono d) r
theorem RO.mono (r:RO c H z ay) (b:∀z ay,H.get? z=some ay->f' ay->b8.get? z=some ay) (f:∀x,H.get? z=some x->b8.get? z=some x) (j:∀h a g,ay= .inst h a g->∀x,H.get? a=some x->b8.get? a=some x):RO c b8 z ay:=by
 induction r with
 |list e q l=>exact .list (f _ e) (q.mono b) l
 |dict d l=>exact .dict (d.mono b f) l
 |inst e d q i l=>exact .inst (f _ e) (j _ _ _ rfl _ d) (q.mono b) i l
theorem RO.grow (r:RO c m.heap z ay) (g:fH m ae):RO c ae.heap z ay:=r.mono (λz ay e _=>g.keep z ay e) (λx e=>g.keep _ _ e) (λ_ _ _ _ _ e=>g.keep _ _ e)
theorem R.grow (r:R c b m) (g:fH m ae):R c b ae where
 objs a o e:=(r.objs a o e).grow g
 old d o e:=g.keep _ _ (r.old d o e)
 new:=r.new
 Cq:=r.Cq
 vC:=r.vC
 tab:=r.tab.mono (λa o e _=>g.keep a o e) λo e=>g.keep _ o e
 gens:=g.gens.trans r.gens
 os:=g.os.trans r.os
theorem St.grow (g:fH m ae):St c b m b ae:=⟨λa o e _=>g.keep a o e,λ_ f=>.inl f⟩
open Mine.St renaming grow->Ex
theorem St.refl:St c b m b m:=Ex (g_ m)
theorem St.trans (x:St c b m q ae) (y:St c q ae ax aZ):St c b m ax aZ where
 keep a o e f:=y.keep a o (x.keep a o e f) λg=>(x.foot a g).elim f λl=>nomatch e.symm.trans l
 foot a f:=(y.foot a f).elim (x.foot a) λl=>by
  by_cases d:ic c b a
  .exact .inl d
  .induction e:m.heap.get? a with
   |none=>exact .inr rfl
   |some o=>exact nomatch (x.keep a o e d).symm.trans l
theorem qG (a:Array eH) (n:Nat):¬f' (listOf a n):=λq=>by
 rcases q.1 with q |q |q<;>exact absurd (show (wM "list")=wM _ from q) (by decide)
variable {cf:YI}
theorem rK {es ep} (h:cf.data= .dict es ep):¬f' cf:=λq=>q.2.1 _ _ h
theorem OQ (c d:gX):¬f' (ud c d):=λq=>by
 rcases q.1 with q |q |q<;>exact KO (show (K7 c)=wM _ from q)
theorem LG (a:Array eH):¬f' (K5 a):=λq=>by
 rcases q.1 with q |q |q<;>exact KO (show jn=wM _ from q)
theorem R.oC (r:R c b m) (f:ic c b z):∃o,m.heap.get? z=some o/\¬f' o:=by
 rcases f with f |⟨a,i,h,e⟩ |rfl
 .induction e:b z using d7 with
  |none=>exact absurd e f
  |some o=>
   induction r.objs z o e using RO.casesOn with
   |list q _ _=>exact ei _ q (qG _ _)
   |dict q _=>refine mW q.obj λo j k d _ g _=>?_;exact ei _ d (rK g)
   |inst q _ _ _ _=>exact ei _ q (OQ _ _)
 .cases r.objs a _ e with
  |inst _ q _ _ _=>exact ei _ q (rK rfl)
 .refine eS r.tab λps e _=>?_
  exact ei _ e (LG _)
theorem R.OR (r:R c b m) (f:ic c b z):z<m.heap.objs.size:=eS (r.oC f) λ_ e _=>rr e
theorem St.frozen (r:R c b m) (x:St c b m q ae):∀a o,m.heap.get? a=some o->f' o->ae.heap.get? a=some o:=λa o e f=>
 x.keep a o e λg=>by
  refine eS (r.oC g) λh d n=>?_
  rw [e] at d;obtain rfl:=d3 d;exact n f
theorem RV.step (a:RV c m.heap J l) (r:R c b m) (y:St c b m q ae):RV c ae.heap J l:=a.mono (y.frozen r)
theorem hU.step (a:hU c m.heap aj j) (r:R c b m) (y:St c b m q ae):hU c ae.heap aj j:=a.mono (y.frozen r)
theorem ic.le (d:eD b q) (f:ic c b z):ic c q z:=by
 rcases f with f |⟨a,h,g,e⟩ |rfl
 .induction e:b z using d7 with
  |none=>exact absurd e f
  |some o=>exact .inl (by rw [d z o e];simp)
 .exact .inr (.inl (qB a h g (d a _ e)))
 .exact .inr (.inr rfl)
theorem R.le (r:R c q m) (d:eD b q):R c b m where
 objs a o e:=r.objs a o (d a o e)
 old:=r.old
 new h f:=r.new h (f.le d)
 Cq a p i j e:=by
  refine mV (r.Cq a p i j (d _ _ e)) λs l n=>?_
  refine iz ?_ l (λh u t k=>n h u t (d _ _ k))
  induction g:b i using d7 with
  |none=>rfl
  |some o=>rw [d _ _ g] at s;contradiction
 vC:=by
  induction g:b c.tab using d7 with
  |none=>rfl
  |some o=>have:=r.vC;rw [d _ _ g] at this;contradiction
 tab:=r.tab
 gens:=r.gens
 os:=r.os
theorem St.le (x:St c b m q ae) (d:eD ax q):St c b m ax ae:=⟨x.keep,λa f=>x.foot a (f.le d)⟩
theorem sA (x:j7):∀l:List (j7×h),h_ l x=l.lookup x:=by
 intro d
 induction d with
 |nil=>
  exact rfl
 |cons c r b=>
  obtain ⟨y,v⟩:=c
  rw [tf,eM]
  by_cases a:x=y
  .subst a;simp
  .rw [if_neg a,beq_false_of_ne a,b]
theorem ph:∀{l:List j7} {x:j7} {i:Nat},r6 l x=some i->l[i]? =some x:=by
 intro c
 induction c with
 |nil=>
  intro _ _ h
  contradiction
 |cons y r a=>
  intro x i h
  rw [Ck] at h
  by_cases e:x=y
  .rw [if_pos e] at h;obtain rfl:=d3 h;subst e;rfl
  .rw [if_neg e] at h
   refine iQ i (fV.mp h) λj b=>?_
   exact (tN ..).trans (a b)
theorem Hd:ao∈slots v->(v.map (·.1)).Nodup->∃k,h_ v ao=some k/\isVar k=true:=by
 intro d c
 refine iQ ao (ck.mp d) λp b=>?_
 have a:=(gA.mp b).1
 refine ei p.2 ?_ (gA.mp b).2
 clear d b
 induction v with
 |nil=>exact (ee a).elim
 |cons y r f=>
  obtain ⟨n,k⟩:=y
  rw [eG,eT] at c
  rw [tf]
  rcases eK.mp a with rfl |a
  .simp
  .rw [if_neg (λe:p.1=n=>c.1 (by rw [<-e];exact ck.mpr (ei p a rfl)))]
   exact f c.2 a
structure To (env:zw) (ns:gm):Prop where
 kind:env.scope.kind= .function
 nd:(ns.map (·.1)).Nodup
 loc:∀x,h_ ns x=some .local->env.kindOf x=some .local
 var:∀x k,h_ ns x=some k->k= .cell\/k= .free->(env.kindOf x=some .cell\/env.kindOf x=some .free)/\∃c,env.cells.lookup x=some c
 own:∀x,h_ ns x=some .cell->env.kindOf x=some .cell
 glob:∀x,h_ ns x=some .globalImplicit->env.kindOf x=some .globalImplicit
 globals:env.globals=iD
 builtins:env.builtins=j0
 apart:∀x y c,env.cells.lookup x=some c->env.cells.lookup y=some c->x=y
 He:∀x c,env.cells.lookup x=some c->env.locals≠c
 EZ:env.kindOf "__classdict__"=none
noncomputable def Dt (B:Base) (env:zw) (h:vX) (x:j7) (v:AV):Prop:=
 (env.kindOf x=some .local/\∃f val,h.Ns env.locals f/\f x=some val/\RV B h val v)\/
 (env.kindOf x≠some .local/\∃c val,env.cells.lookup x=some c/\h.IsCell c (some val)/\RV B h val v)
structure FR (B:Base) (env:zw) (ns:gm) (m:MM) (st:AS) (s:eL):Prop where
 ok:To env ns
 holds:∀(i:Nat) x v,(slots ns)[i]? =some x->m[i]? =some (some v)->Dt B env s.heap x v
 len:m.length=(slots ns).length
 BQ:∃f,s.heap.Ns env.locals f
 E0:¬ic B st env.locals/\B.h₀.get? env.locals=none
 Du:∀x c,env.cells.lookup x=some c->¬ic B st c/\B.h₀.get? c=none/\∃v,s.heap.IsCell c v
 code:BN ns=true->env.code= .ref B.lc/\env.qual=B.EW
variable {ab:zw}
theorem Dt.mono (a:Dt c ab H ao l) (i:∀a o,H.get? a=some o->f' o->b8.get? a=some o) (p:∀o,H.get? ab.locals=some o->b8.get? ab.locals=some o) (n:∀ao b,ab.cells.lookup ao=some b->∀o,H.get? b=some o->b8.get? b=some o):Dt c ab b8 ao l:=by
 rcases a with ⟨k,f,d,⟨o,j,m,g,r⟩,e,q⟩ |⟨k,b,d,h,⟨o,g,r⟩,q⟩
 .exact .inl (nW k f d ⟨o,j,m,p _ g,r⟩ e (q.mono i))
 .exact .inr (nW k b d h ⟨o,n _ _ h _ g,r⟩ (q.mono i))
variable {e:MM}
theorem FR.step (x:FR c ab v e b m) (r:R c b m) (y:St c b m q ae):FR c ab v e q ae where
 ok:=x.ok
 holds i n j z t:=(x.holds i n j z t).mono (y.frozen r) (λo a=>y.keep _ _ a x.E0.1) (λn g h o a=>y.keep _ _ a (x.Du n g h).1)
 len:=x.len
 BQ:=wZ x.BQ λf o s w d u=>⟨f,o,s,w,(y.keep _ _ d x.E0.1),u⟩
 E0:=⟨λf=>(y.foot _ f).elim x.E0.1 (λl=>by
  refine wZ x.BQ λf o _ _ a _=>?_
  rw [l] at a;contradiction),x.E0.2⟩
 Du n g h:=by
  refine oH (x.Du n g h) λk p j o d A=>?_
  exact rI (λf=>(y.foot _ f).elim k (λl=>by rw [l] at d;contradiction)) p j o (y.keep _ _ d k) A
 code:=x.code
inductive k4 (B:Base) (st:AS) (s:eL) (Q:AV->AS->Prop) (v:eH) (s':eL):Prop where
 |mk (x:AV) (st':AS) (h0:RV B s'.heap v x) (h1:R B st' s') (h2:St B st s st' s') (h3:Q x st'):k4 B st s Q v s'
inductive LH (B:Base) (st:AS) (s:eL) (Q:List AV->AS->Prop) (vs:List eH) (s':eL):Prop where
 |mk (xs:List AV) (st':AS) (h0:hU B s'.heap vs xs) (h1:R B st' s') (h2:St B st s st' s') (h3:Q xs st'):LH B st s Q vs s'
inductive Aw (B:Base) (st:AS) (s:eL) (Q:Bool->AS->Prop) (b:Bool) (s':eL):Prop where
 |mk (st':AS) (h0:R B st' s') (h1:St B st s st' s') (h2:Q b st'):Aw B st s Q b s'
noncomputable def Vt:eH->eL->Prop:=λ_ _=>False
noncomputable abbrev WE {α:Type} (B:Base) (A:jc) (t:Ox α) (Q:α->eL->Prop) (s:eL):Prop:=f_ (hJ B.prog B.w) A t Q Vt s
variable {n:AV->AS->Prop}
theorem post_of (r:R c b m) (g:fH m ae) (q:RV c ae.heap J l) (h:n l b):k4 c b m n J ae:=⟨l,b,q,r.grow g,.grow g,h⟩
theorem k4.trans (y:St c b m q ae) (p:k4 c q ae n J aZ):k4 c b m n J aZ:=let ⟨x,f,a,g,e,d⟩:=p;⟨x,f,a,g,y.trans e,d⟩
open Mine.k4 renaming trans->Ca
theorem Aw.trans (y:St c b m q ae) (p:Aw c q ae bK aw aZ):Aw c b m bK aw aZ:=let ⟨e,aw,a,d⟩:=p;⟨e,aw,y.trans a,d⟩
variable {L:jc} {cC:eH->eL->Prop}
theorem fZ {t:Ox eH} (h:WE c L t (k4 c b ae n) m) (k:∀v f x g,RV c f.heap v x->R c g f->St c b ae g f->n x g->aG v f):f_ (hJ c.prog c.w) L t aG cC m:=
 el h (λv f q=>let ⟨x,g,a,j,i,d⟩:=q;k v f x g a j i d) λ_ _ e=>e.elim
variable {bL:List AV->AS->Prop}
theorem xg {t:Ox (List eH)} {P:List eH->eL->Prop} (h:WE c L t (LH c b ae bL) m) (k:∀v f x g,hU c f.heap v x->R c g f->St c b ae g f->bL x g->P v f):f_ (hJ c.prog c.w) L t P aG m:=
 el h (λv f q=>let ⟨x,g,a,j,i,d⟩:=q;k v f x g a j i d) λ_ _ e=>e.elim
variable {cQ:Bool->eL->Prop}
theorem q0 {t:Ox Bool} (h:WE c L t (Aw c b ae bK) m) (k:∀v a f,R c f a->St c b ae f a->bK v f->cQ v a):f_ (hJ c.prog c.w) L t cQ aG m:=
 el h (λv a q=>let ⟨f,i,g,d⟩:=q;k v a f i g d) λ_ _ e=>e.elim
structure mO (n:Nat) (A:jc):Prop where
 depth:A.depth+10*n<=900
 units:A.units+100*n<=9000
 handled:A.handled=none
theorem mO.le (r:mO a L) (h:d<=a):mO d L:=⟨by have:=r.depth;exact a_ (d5 (gQ _ h) _) this,by have:=r.units;exact a_ (d5 (gQ _ h) _) this,r.handled⟩
theorem mO.Tp (r:mO a L):L.depth<recursionLimit:=by have:=r.depth;show L.depth<1000;exact r4 this
theorem mO.Ax (r:mO a L):L.units+800<cLine:=by have:=r.units;show L.units+800<9900;exact r3 this
structure Iz (B:Base) (c:Nat) (C:Qp):Prop where
 get:sY B.K (.ref (B.ca c)) "__getattribute__"=some (some (.builtin "object.__getattribute__"))
 G9:sY B.K (.ref (B.ca c)) "__getattr__"=some none
 set:sY B.K (.ref (B.ca c)) "__setattr__"=some (some (.builtin "object.__setattr__"))
 plain:SH B.K (B.ca c)=true
 dict:SI B.K (B.ca c)=true
 makes:makesIn B.K (B.ca c)=true
 init:sY B.K (.ref (B.ca c)) "__init__"=some (some (.ref (B.fa C.init)))
 Tq:isFn B.K (.ref (B.fa C.init))=true
 Tr:∀(x:Nat) nm,AT[x]? =some nm->Wn B.K (B.ca c) nm=some none
 name:∀(x:Nat) nm,AT[x]? =some nm->C.meths.lookup x=none->sY B.K (.ref (B.ca c)) nm=some none
 Tt:∀(x:Nat) nm f,AT[x]? =some nm->C.meths.lookup x=some f->sY B.K (.ref (B.ca c)) nm=some (some (.ref (B.fa f)))/\isFn B.K (.ref (B.fa f))=true/\
  (∃g,SG B.K (.ref (B.fa f)) "__get__"=some (some g))/\Wm B.K (.ref (B.fa f))=some false
structure gU (B:Base):Prop where
 Wd:B.K.In B.h₀
 g:B.h₀.Ns iD B.mg
 b:B.h₀.Ns j0 B.mb
 nolimit:B.h₀.NoLimit
 nodigits:∃mc,B.h₀.Ns cStatics mc/\mc "sys.int_max_str_digits"=none
 Tu:∃o,B.h₀.get? z9=some o
 cls:∀c,c<10->∃C,PG.Dn[c]? =some C/\Iz B c C
 IA:∀k,k<82->U3 B.K (.ref (B.fa k))=true
 IB:∀c,c<10->U3 B.K (.ref (B.ca c))=true
 Tw:PG.fns.length=82
 LI:PG.Dn.length=10
 IC:∀x v,h_ GG x=some v->∃val,(B.mg x=some val\/(B.mg x=none/\B.mb x=some val))/\RV B B.h₀ val v
noncomputable def qn (B:Base) (n:Nat):Prop:=∀(f:AV) (args:List AV) (st:AS) (Q:AV->AS->Prop) (A:jc) (fv:eH) (vs:List eH) (s:eL),
 eE PG n f args st Q->mO n A->R B st s->RV B s.heap fv f->hU B s.heap vs args->WE B A (nB fv vs []) (k4 B st s Q) s
noncomputable def SE (B:Base) (n:Nat) (ns:gm) (e:gc) (c:CE):Prop:=∀(A:jc) (env:zw) (m:MM) (st:AS) (s:eL) (Q:AV->AS->Prop),
 mO n A->FR B env ns m st s->R B st s->VE PG (eE PG n) c m st Q->WE B A (vV e env) (k4 B st s Q) s
noncomputable def LJ (B:Base) (n:Nat) (ns:gm) (es:List gc) (cs:w0):Prop:=∀(A:jc) (env:zw) (m:MM) (st:AS) (s:eL) (Q:List AV->AS->Prop) (pos:EB),
 mO n A->FR B env ns m st s->R B st s->Io PG (eE PG n) cs m st Q->WE B A (R9 (sX pos (ng es env))) (LH B st s λxs st'=>xs.length=cs.len/\Q xs st') s
noncomputable def ST (B:Base) (n:Nat) (ns:gm) (e:gc) (c:CE):Prop:=∀(A:jc) (env:zw) (m:MM) (st:AS) (s:eL) (Q:Bool->AS->Prop),
 mO n A->FR B env ns m st s->R B st s->VT PG (eE PG n) c (VE PG (eE PG n) c) m st Q->WE B A (GQ e env (vV e env)) (Aw B st s Q) s
theorem JH:td=("__debug__":j7):=by unfold td;exact (by decide+kernel:(⟨⟨[95,95,100,101,98,117,103,95,95]⟩⟩:j7)="__debug__")
theorem LK (h:ao≠td):(ao==("__debug__":j7))=false:=by
 rw [beq_eq_false_iff_ne,<-JH];exact h
variable {aa:EB}
theorem snd_const {f:Const} (h:Lx f=some l):SE c a v (.Constant f d aa) (.cst l):=by
 intro A g m j s Q k F r e
 induction f with
 |none=>(injection h with h;subst h);exact wpAny_Constant_none (post_of r (g_ _) .none e)
 |bool b=>(injection h with h;subst h);exact wpAny_Constant_bool (post_of r (g_ _) (.bool b) e)
 |int i=>(injection h with h;subst h);exact QR (post_of r (iO _ _) (.int i _) e)
 |str x=>(injection h with h;subst h);exact wpAny_Constant_str (post_of r (iO _ _) (.str x _) e)
 |_=>contradiction
variable {g:CE}
set_option tactic.hygienic true in
theorem xh (l:gU c) (h:ux GG v ao=some g):SE c a v (.Name ao aa) g:=by
 intro A B m K s Q L F r b
 obtain ⟨n,h⟩:=Cn _ h
 have n:=LK n
 rcases h with ⟨d,t,N,rfl⟩ |⟨k,i,d,z,C,rfl⟩
 .obtain ⟨p,j,I⟩:=l.IC ao t N
  have q:RV c s.heap p t:=I.mono λM o e _=>r.old M o e
  refine Name_function_global F.ok.kind (F.ok.glob ao d) ?_ n
  have H:B.globals=mainGlobals:=F.ok.globals
  have P:B.builtins=builtinsNs:=F.ok.builtins
  have G:k4 c K s Q p s:=post_of r (g_ _) q b
  rcases j with j |⟨j,R⟩
  .exact loadGlobal_global (H▸l.g.keeps r.old) j G
  .exact loadGlobal_builtin (H▸l.g.keeps r.old) j (P▸l.b.keeps r.old) R G
 .have D:=ph C
  obtain ⟨t,E,b⟩:=b
  refine wpAny_Name ?_ n
  rcases F.holds i ao t D E with ⟨u,f,p,J,O,q⟩ |⟨u,g,p,x,y,q⟩
  .exact wpAny_loadName_local F.ok.kind u J O (post_of r (g_ _) q b)
  .rcases (F.ok.var ao k d (z.resolve_left λq=>u (F.ok.loc ao (d.trans (congrArg some q))))).1 with w |w
   .exact wpAny_loadName_cell F.ok.kind w x y (post_of r (g_ _) q b)
   .refine wpAny_loadName_free F.ok.kind w x y (post_of r (g_ _) q b) ?_
    rw [beq_eq_false_iff_ne];clear l L r n d C D E b u x y q z;rintro rfl
    rw [F.ok.EZ] at w;contradiction
theorem hX:fE<=sizeLine:=by unfold fE;rw [nC];decide
theorem ik (h:vX):h.get? h.objs.size=none:=by
 induction e:h.get? h.objs.size with
 |none=>rfl
 |some o=>exact absurd (rr e) (jg _)
theorem R.fresh (r:R c b m):b.free m.heap.objs.size/\¬ic c b m.heap.objs.size/\c.h₀.get? m.heap.objs.size=none:=by
 have a:¬ic c b m.heap.objs.size:=λf=>absurd (r.OR f) (jg _)
 refine ⟨⟨?_,λd h g e=>a (.inr (.inl ⟨d,h,g,e⟩))⟩,a,?_⟩
 .induction e:b m.heap.objs.size using d7 with
  |none=>rfl
  |some o=>exact absurd (.inl (by rw [e];simp)) a
 .induction e:c.h₀.get? m.heap.objs.size using d7 with
  |none=>rfl
  |some o=>exact absurd (rr (r.old _ _ e)) (jg _)
theorem R.newList (r:R c b m) {k:Nat} (w:hU c m.heap bf.toList j) (z:j.length<=fE):
 R c (b.set m.heap.objs.size (.list j)) {m with heap:=m.heap.push (listOf bf k)}/\St c b m (b.set m.heap.objs.size (.list j)) {m with heap:=m.heap.push (listOf bf k)}:=by
 refine mV r.fresh λf B F=>?_
 have g:=jw m (listOf bf k)
 have C:m.heap.objs.size≠c.tab:=λe=>B (.inr (.inr e))
 have u:∀d,ic c (b.set m.heap.objs.size (.list j)) d->ic c b d\/d=m.heap.objs.size:=by
  rintro d (h |⟨a,s,n,h⟩ |h)
  .by_cases i:d=m.heap.objs.size
   .exact .inr i
   .rw [gv i] at h;exact .inl (.inl h)
  .by_cases l:a=m.heap.objs.size
   .subst l;rw [gW] at h;(injection h;contradiction)
   .rw [gv l] at h;exact .inl (.inr (.inl (qB a s n h)))
  .exact .inl (.inr (.inr h))
 refine ⟨⟨λa o e=>?_,λd o e=>g.keep _ _ (r.old d o e),λd i=>?_,λa s t n e=>?_,?_,?_,r.gens,r.os⟩,g.keep|>λk=>⟨λd o e _=>k d o e,λd i=>?_⟩⟩
 .by_cases l:a=m.heap.objs.size
  .subst l;rw [gW] at e;(injection e with e;subst e)
   exact .list (eW _ rfl) (w.grow g) z
  .rw [gv l] at e;exact (r.objs a o e).grow g
 .rcases u d i with h |rfl
  .exact r.new d h
  .exact F
 .have l:a≠m.heap.objs.size:=λq=>by subst q;rw [gW] at e;(injection e;contradiction)
  rw [gv l] at e
  refine mV (r.Cq a s t n e) λE D v=>?_
  have A:t≠m.heap.objs.size:=λq=>f.2 a s n (q▸e)
  refine iz (by rw [gv A];exact E) D (λd y x p=>?_)
  by_cases i:d=m.heap.objs.size
  .subst i;rw [gW] at p;(injection p;contradiction)
  .rw [gv i] at p;exact v d y x p
 .rw [gv (nz C)];exact r.vC
 .exact r.tab.mono (λa o e _=>g.keep a o e) λo e=>g.keep _ o e
 .rcases u d i with h |rfl
  .exact .inl h
  .exact .inr (ik _)
theorem nY (r:R c b m) (e:hU c m.heap bf.toList j) (i:j.length<=fE) (h:∀d,b.free d->n (.ref d) (b.set d (.list j))):k4 c b m n (.ref m.heap.objs.size) {m with heap:=m.heap.push (listOf bf a)}:=
 let ⟨g,f⟩:=r.newList (k:=a) e i
 ⟨.ref _,_,.ref _,g,f,h _ r.fresh.1⟩
theorem uA (r:R c b m) (d:hU c m.heap bf.toList j) (e:j.length<=fE) (h:n (.tup j) b):k4 c b m n (.ref m.heap.objs.size) {m with heap:=m.heap.push (gr "tuple" bf a)}:=
 post_of r (jw _ _) (.tup (eW _ rfl) (by rw [<-eB,d.length];exact e) (d.grow (jw _ _))) h
theorem xj (q:RO c H z (.list j)):∃a k,H.get? z=some (listOf a k)/\hU c H a.toList j/\j.length<=fE:=by
 cases q with
 |list e r l=>exact nr _ _ e r l
theorem OS {B:Base} {h:vX} {items:Array eH} {xs:List AV} (r:hU B h items.toList xs):∀k:Nat,
 hU B h (UG (λx1 x2=>x1++x2) #[] (gk k items)).toList (gk k xs).flatten:=by
 have key:∀(k:Nat) (acc:Array eH) (ys:List AV),hU B h acc.toList ys->hU B h (UG (λx1 x2=>x1++x2) acc (gk k items)).toList (ys++(gk k xs).flatten):=by
  intro k
  induction k with
  |zero=>intro acc ys q;simpa using q
  |succ k ih=>
   intro acc ys q
   rw [wH,List.foldl_cons,wH,La,<-eC]
   exact ih _ _ (by rw [oB];exact q.append r)
 intro k
 simpa using key k #[] [] .nil
theorem LL (h:p.natAbs<2 ^ 60\/aB.natAbs<2 ^ 60):IntMulOk p aB:=by
 have a:∀k:Int,k.natAbs<2 ^ 60->Builtin.Int.intBits k<=64:=λk b=>by
  unfold Builtin.Int.intBits
  split
  .exact ft 64
  .have:k.natAbs.log2<60:=(Nat.log2_lt (by rename_i e;simpa using e)).mpr b
   exact a_ this (by decide)
 rcases h with h |h
 .exact .of_left (a _ h)
 .exact .of_right (a _ h)
variable {aV:gX}
theorem OT {e:Array eH} (r:R c b m) (f:m.heap.get? z=some (gr "tuple" bf a)) (g:m.heap.get? aV=some (gr "tuple" e d)) (p:hU c m.heap bf.toList j) (q:hU c m.heap e.toList aN) (i:j.length+aN.length<=fE) (h:n (.tup (j++aN)) b):
 WE c L (binaryOp .Add (.ref z) (.ref aV)) (k4 c b m n) m:=by
 have l:bf.size=j.length:=by rw [<-p.length,eB]
 have o:e.size=aN.length:=by rw [<-q.length,eB]
 have t:bf.size+e.size<=sizeLine:=a_ (by exact ad i l o) hX
 by_cases k:bf.isEmpty=true
 .have v:j=[]:=by
   have:bf.size=0:=by simpa [wJ] using k
   exact gT.mp (by exact l.symm.trans this)
  refine Wk (ei _ f rfl) (ei _ g rfl) SA VR QX Qe (Oz _ _) (AutoSeq1.tuple___add___tuple_tuple_0 z bf a aV e d k) (iz f g ?_)
  exact post_of r (iO _ _) (.tup g (by exact a_ (c_ _ _) (ad i l o)) (by rw [v];exact q)) h
 .by_cases s:e.isEmpty=true
  .have u:aN=[]:=by
    have:e.size=0:=by simpa [wJ] using s
    exact gT.mp (by exact o.symm.trans this)
   refine Wk (ei _ f rfl) (ei _ g rfl) SA VR QX Qe (Oz _ _) (AutoSeq1.tuple___add___tuple_tuple_1 z bf a aV e d k s) (iz f g ?_)
   exact post_of r (iO _ _) (.tup f (by exact a_ (eg _ _) (ad i l o)) (by rw [u,eR];exact p)) h
  .refine P.add_tuple f g k s ?_ t
   exact uA r (by rw [oB];exact p.append q) (by rw [bh];exact i) h
variable {cD:Operator}
theorem ID (h:Th cD=some .add):cD= .Add:=by rcases cD with ⟨⟩<;>first |rfl |contradiction |(injection h;contradiction)
theorem OU (h:Th cD=some .mul):cD= .Mult:=by rcases cD with ⟨⟩<;>first |rfl |contradiction |(injection h;contradiction)
variable {bM:Sk} {aT:eH}
theorem LM (d:Th cD=some bM) (r:R c b m) (w:RV c m.heap J l) (x:RV c m.heap aT af) (h:Aj b n bM l af):
 WE c L (binaryOp cD J aT) (k4 c b m n) m:=by
 induction h using Aj.casesOn with
 |int f h=>
  refine rY J (gn w) λt=>?_
  refine rY aT (gn x) λu=>?_
  have g:=post_of (c:=c) r (iO m (m.toks+1)) (.int _ m.toks) h
  clear r h w x;induction cD using Operator.casesOn with
  |Add=>(injection d with d;subst d);(injection f with f;subst f);exact wpAny_add_int g
  |Sub=>(injection d with d;subst d);(injection f with f;subst f);exact sub_int g
  |Mult=>(injection d with d;subst d);refine iK (Lu f) λj v=>?_;clear f;subst v;exact mul_int g (LL j)
  |Mod=>(injection d with d;subst d);refine iK (V_ f) λj v=>?_;clear f;subst v;exact mod_int j g
  |BitAnd=>
   (injection d with d;subst d);refine iK (Lu f) λj v=>?_;clear f;subst v
   refine and_int ?_
   unfold Builtin.bitAnd
   rw [decide_eq_true j.1,decide_eq_true j.2]
   exact g
  |FloorDiv=>(injection d with d;subst d);refine iK (V_ f) λj v=>?_;clear f;subst v;exact floordiv_int (λe=>j (.inl e)) g (.inl (PyProof.noPylong_small (gF (x9.mp λq=>j (.inr q)) (by decide))))
  |_=>contradiction
 |cat z h=>
  refine g0 J (iB w) λa km k O E p=>?_
  refine g0 aT (iB x) λM Y S f W A=>?_
  obtain rfl:=ID d
  exact OT r O f p A z h
 | @app a M H Z C Q z h=>
  obtain rfl:=gM w
  obtain rfl:=gM x
  obtain rfl:=ID d
  refine jS (xj (r.objs a _ C)) λs k o p E=>?_
  refine jS (xj (r.objs M _ Q)) λkl S X A W=>?_
  refine P.add_list o X ?_ (a_ ?_ hX)
  .exact nY r (by rw [oB];exact p.append A) (by rw [bh];exact z) h
  .rw [<-eB,p.length,<-eB,A.length];exact z
 | @rep a i H C f y h=>
  obtain rfl:=gM w
  refine rY aT (gn x) λu=>?_
  obtain rfl:=OU d
  refine jS (xj (r.objs a _ C)) λs k o p E=>?_
  have G:s.size=H.length:=by rw [<-p.length,eB]
  have I:=y
  unfold fE at f y
  have D:s.size*i.toNat<=100000:=by rw [G];exact y
  refine wpAny_binaryOp_repeat_ref (T:="list") (U:="int") (by decide) (ei _ o rfl) (λV=>YB V i u) noFill_list_mul F.fills_int_mul Sf repeat_list F.slot_int_index.lookup
   (vW Sf (YB m i u) F.entry_int_rmul (F.args_int_rmul_2 _ _) (int___rmul___int_list i u a s k)
    ⟨o,rfl,(ei _ o rfl),vW F.slot_list_mul (ei _ o rfl) F.entry_list_mul (F.args_list_mul_2 _ _)
     (Wt a s k i u (by simp [Up];exact Q8 (a_ f (by decide))) (by exact iY.mpr (a_ D (by decide))) (by simp [yV,x7];exact a_ D (by decide))) ⟨o,?_⟩⟩)
  refine nY r ?_ ?_ h
  .induction K:s.isEmpty using j5 with
   |true=>
    have N:H=[]:=gT.mp (by
     have:s.size=0:=by simpa [wJ] using K
     exact G.symm.trans this)
    clear r C f y h w x d o p E G I D K;subst N
    simp only [if_true]
    rw [show (gk i.toNat ([]:List AV)).flatten=[] from by simp]
    exact .nil
   |false=>simpa using OS p i.toNat
  .rw [List.length_flatten,xW,List.sum_replicate_nat,Nat.mul_comm];exact I
variable {bN:Bool}
theorem oV (h:aw=true↔y) (a:bN=true↔y):aw=bN:=by
 rcases aw with ⟨⟩<;>cases bN<;>simp_all
theorem IE (c:mO a L) (b:Plain l):L.units+min (toPy l).depth (toPy af).depth<cLine:=by
 have:=(iu b).2
 have:=c.Ax
 exact um (aI:=6) this (by assumption) rfl
theorem q5 (r:R c b m) (e:b z=some (.list j)) (a:∀x∈j,Plain x):
 (∃d,Yy m.heap (.ref z) (.list (jW j)) d)/\xT (jW j)=true/\qq (jW j)<=6:=by
 refine jS (xj (r.objs z _ e)) λf k g q l=>?_
 refine j_ (xe a q) λd p=>?_
 exact ⟨⟨_,.list g rfl rfl p⟩,v_ a⟩
noncomputable def q6 (B:Base):Prop:=∀(n:Nat) (A:jc) (st:AS) (s:eL) (a a':gX) (b:Bool) (Q:eH->eL->Prop) (kvs lvs:List (AV×AV)),
 mO n A->R B st s->st a=some (.dict kvs)->st a'=some (.dict lvs)->Eqv st (.ref a) (.ref a') b->
 ((∀s',fH s s'->Q (.bool b) s')->WE B A (qR .Eq (.ref a) (.ref a')) Q s)/\((∀s',fH s s'->Q (.bool (!b)) s')->WE B A (qR .NotEq (.ref a) (.ref a')) Q s)
set_option tactic.hygienic true in
theorem IF (w:q6 c) (j:mO a L) (r:R c b m) (i:RV c m.heap J l) (k:RV c m.heap aT af) (e:Eqv b l af aw):
 ((∀p,fH m p->aG (.bool aw) p)->WE c L (qR .Eq J aT) aG m)/\((∀p,fH m p->aG (.bool (!aw)) p)->WE c L (qR .NotEq J aT) aG m):=by
 have I:=j.Ax
 cases e with
 |bool O d=>
  obtain rfl:=xc i;obtain rfl:=xc k
  refine ⟨λh=>eq_bool (h m (g_ _)),λh=>?_⟩
  exact ne_bool (h m (g_ _))
 |plain g q aw t=>
  obtain ⟨G,n⟩:=jX g i
  obtain ⟨D,o⟩:=jX q k
  have e:mS (toPy l) (toPy af)=aw:=oV (xf g q) t
  exact ⟨λh=>compareEq_reads n o (iu g).1 (iu q).1 (IE j g) (e▸h m (g_ _)),
   λh=>compareNe_reads n o (iu g).1 (iu q).1 (IE j g) (e▸h m (g_ _))⟩
 |list h f u v aw t=>
  rename_i s H
  have:=gM i;subst this
  have:=gM k;subst this
  obtain ⟨⟨G,n⟩,x,M⟩:=q5 r h u
  obtain ⟨⟨D,o⟩,y,N⟩:=q5 r f v
  have e:mS (.list (jW s)) (.list (jW H))=aw:=oV (show sl _ _=true↔_ from EY u v) t
  have A:∀z:Nat,L.units+min (Eo (.list (jW s))) z<cLine:=λz=>by
   have:Eo (.list (jW s))=qq (jW s)+1:=rfl
   exact um I (n1 this (fg M)) rfl
  exact ⟨λh=>compareEq_reads n o x y (A _) (e▸h m (g_ _)),λh=>compareNe_reads n o x y (A _) (e▸h m (g_ _))⟩
 |Ij h B f=>
  have:=gM i;subst this
  have:=gM k;subst this
  exact w a L b m _ _ _ aG _ _ j r h f (.Ij h B f)
 |Ik h f E F K C=>
  have:=gM i;subst this
  have:=gM k;subst this
  exact w a L b m _ _ _ aG _ _ j r h f (.Ik h f E F K C)
theorem R.isList (r:R c b m) (e:b z=some (.list j)):∃a k,m.heap.get? z=some (listOf a k)/\hU c m.heap a.toList j/\j.length<=fE/\m.heap.IsList z a/\a.size=j.length:=by
 refine jS (xj (r.objs z _ e)) λa k g q l=>?_
 exact qW a k g q l ⟨_,g,rfl,_,rfl⟩ (by rw [<-q.length,eB])
theorem R.oP (r:R c b m) (e:b z=some (.dict aC)):RD c m.heap z aC/\aC.length<=fE:=by
 cases r.objs z _ e with
 |dict d l=>exact ⟨d,l⟩
theorem R.uB (a:gU c) (r:R c b m) (e:b z=some ay):(z==z9)=false:=by
 rw [beq_eq_false_iff_ne];intro d;subst d
 obtain ⟨f,h⟩:=a.Tu
 have:=r.new z9 (.inl (by rw [e];simp))
 rw [this] at h;contradiction
theorem y_ {a:Array h} {c:List t} (b:a.size=c.length):a.isEmpty=c.isEmpty:=by
 induction c using ej with
 |nil=>simp at b;simp [b]
 |cons y r=>induction d:a.isEmpty using j5 with
  |false=>rfl
  |true=>
   have:a.size=0:=by simpa [wJ] using d
   rw [this] at b;simp at b
theorem ti (r:R c b m) (j:RV c m.heap J l) (h:nM b l aw) (f:∀n,fH m n->cQ aw n):WE c L (EA J) cQ m:=by
 induction h using nM.casesOn with
 |none=>obtain rfl:=qF j;exact truthy_none (f _ (g_ _))
 |bool w=>obtain rfl:=xc j;exact oo (f _ (g_ _))
 |int i=>
  refine rY J (gn j) λt=>?_
  refine Uw ?_
  rw [show (i !=0)=decide (i≠0) by by_cases e:i=0<;>simp [e]]
  exact f _ (g_ _)
 |tup s=>
  refine g0 J (iB j) λa u k e d q=>?_
  refine truthy_tuple (sZ _ e rfl _ rfl) (by unfold fE at d;exact JB d) ?_
  rw [y_ (c:=s) (by rw [<-q.length,eB])]
  exact f _ (iO _ _)
 |list e=>
  obtain rfl:=gM j
  refine gp (r.isList e) λv k g q d p o=>?_
  refine wpAny_truthy_list p (by unfold fE at d;exact JB (n1 o d)) ?_
  rw [y_ o]
  exact f _ (iO _ _)
theorem LN (b:RV c m.heap J l) (h:l≠.none) (a:∀n,l≠.bi n):plainIs J .none=true/\(J==.none)=false:=by
 induction b using RV.casesOn with
 |none=>exact absurd rfl h
 |bi n=>exact absurd rfl (a n)
 |_=>exact ⟨rfl,rfl⟩
variable {cE:List (Int×eH)}
theorem nZ (e:aC.map (·.1)=cE.map (λa=>.int a.1)):(jm cE p).isSome=true↔AV.int p∈aC.map (·.1):=by
 rw [e]
 simp only [jm,Jt,Lb,decide_eq_true_eq,ck]
 exact ⟨λc=>eS c λa b q=>(ei a b (by rw [q])),λc=>eS c λa b q=>(ei a b (by injection q))⟩
theorem tj {a:List (AV×gX×eH)} (e:aC.map (·.1)=a.map (·.1)):(Sb a l).isSome=true↔l∈aC.map (·.1):=by
 rw [e]
 simp only [Sb,Jt,Lb,decide_eq_true_eq,ck]
theorem vg (b:mO a L):(tupK c).room L.in1:=by
 have:=b.Ax
 show L.in1.units+100<vz
 exact (ul 101 this rfl:)
theorem LO (D:gU c) (A:mO a L) (r:R c b m) (o:RV c m.heap J l) (s:RV c m.heap aT af) (e:Cg b l af aw):
 ((∀y,fH m y->aG (.bool aw) y)->WE c L (qR .In J aT) aG m)/\((∀y,fH m y->aG (.bool (!aw)) y)->WE c L (qR .NotIn J aT) aG m):=by
 have x:=A.Ax
 induction e with
 |list f h n aw p=>
  have:=gM s;clear D A s;subst this
  refine mV (q5 r h n) λv E F=>?_;refine j_ v λM u=>?_
  refine j_ (jX f o) λI w=>?_
  have e:=oV (Iu f n) p
  have j:=(iu f).2
  exact ⟨λh=>in_list_reads u w E (iu f).1 (by exact Vc x F rfl) (e▸h m (g_ _)),λh=>notIn_list_reads u w E (iu f).1 (by exact Vc x F rfl) (e▸h m (g_ _))⟩
 |tup f n aw p=>
  refine g0 aT (iB s) λK N k g C q=>?_
  refine j_ (xe n q) λM u=>?_
  refine j_ (jX f o) λI w=>?_
  have e:=oV (Iu f n) p
  have j:=(iu f).2
  exact ⟨λh=>in_tuple_reads (.tuple g rfl rfl u) w (v_ n).1 (iu f).1 (by exact VZ x j rfl) (e▸h m (g_ _)),
   λh=>notIn_tuple_reads (.tuple g rfl rfl u) w (v_ n).1 (iu f).1 (by exact VZ x j rfl) (e▸h m (g_ _))⟩
 |dict h f aw p=>
  have:=gM s;clear x s;subst this
  have z:=r.uB D h
  refine iK (r.oP h) λd C=>?_
  rcases f with ⟨⟨i,rfl⟩,H⟩ |⟨B,G⟩
  .refine gi (d.GL H) λP j q e=>?_
   refine rY J (gn o) λt=>?_
   have e:=oV (nZ e) p
   exact ⟨λh=>wpAny_in_of (pH _ _ i t) z j.dictOf.mapOf (e▸h _ (iO _ _)),λh=>wpAny_notIn_of (pH _ _ i t) z j.dictOf.mapOf (e▸h _ (iO _ _))⟩
  .refine gi (d.Vs G) λQ j q e=>?_
   refine j_ B.1 λS v=>?_;subst v
   refine mW (iB o) λK N k v g C O=>?_;subst v
   have e:=oV (tj e) p
   exact ⟨λh=>wpAny_in_heap (knd:=tupK c) (vg A) ⟨B,o⟩ z j (e▸h _ (iO _ _)),λh=>wpAny_notIn_heap (knd:=tupK c) (vg A) ⟨B,o⟩ z j (e▸h _ (iO _ _))⟩
noncomputable def Vu:Og->Et
 | .eq=>.Eq | .ne=>.NotEq | .lt=>.Lt | .le=>.LtE | .gt=>.Gt | .ge=>.GtE | .Tb=>.In | .Cf=>.NotIn | .Sl=>.Is | .Tc=>.IsNot
theorem LP (a:Et):a=Vu (zE a):=by rcases a with ⟨⟩<;>rfl
theorem vh (A:gU c) (z:q6 c) (q:mO a L) (r:R c b m) {s:Et} {P:Bool->Prop} (k:RV c m.heap J l) (n:RV c m.heap aT af) (h:pV b P (zE s) l af):
 WE c L (qR s J aT) (λB p=>∃y,B= .bool y/\fH m p/\P y) m:=by
 rw [LP s]
 generalize zE s=o at h⊢
 induction h with
 |eq e d=>exact (IF z q r k n e).1 λp g=>gq _ rfl g d
 |ne e d=>exact (IF z q r k n e).2 λp g=>gq _ rfl g d
 |Tb e d=>exact (LO A q r k n e).1 λp g=>gq _ rfl g d
 |Cf e d=>exact (LO A q r k n e).2 λp g=>gq _ rfl g d
 |Vo d=>obtain rfl:=qF k;obtain rfl:=qF n;exact UX rfl (gq _ rfl (g_ _) d)
 |Td d=>obtain rfl:=qF k;obtain rfl:=qF n;exact R4 rfl (gq _ rfl (g_ _) d)
 |Xh h v d=>
  obtain rfl:=qF n
  refine iK (LN k h v) λx w=>?_
  exact UX x (gq _ rfl (g_ _) (w▸d))
 |Te h v d=>
  obtain rfl:=qF n
  refine iK (LN k h v) λx w=>?_
  exact R4 x (gq _ rfl (g_ _) (by rw [w];exact d))
 | @ord o i j y f d=>
  refine rY J (gn k) λt=>?_
  refine rY aT (gn n) λu=>?_
  induction o with
  |lt=>(injection f with f;subst f);exact Ux (gq _ rfl (g_ _) d)
  |le=>(injection f with f;subst f);exact Uy (gq _ rfl (g_ _) d)
  |gt=>(injection f with f;subst f);exact Uz (gq _ rfl (g_ _) d)
  |ge=>(injection f with f;subst f);exact UA (gq _ rfl (g_ _) d)
  |_=>contradiction
noncomputable def pM:AV->Option Int
 | .int i=>some i
 |_=>none
noncomputable def nu (p:Option Int):Nat:=match p with |some i=>i.toNat |none=>0
noncomputable def pW (p:Option Int) (n:Nat):Nat:=match p with |some i=>i.toNat |none=>n
noncomputable def r9 (p:Option Int):Prop:=∀i,p=some i->0<=i
set_option tactic.hygienic true in
theorem Ay (h:cut j l af=some aN):(l= .none\/∃i,l= .int i)/\(af= .none\/∃i,af= .int i)/\r9 (pM l)/\r9 (pM af)/\aN=(j.take (pW (pM af) j.length)).drop (nu (pM l)):=by
 have b:∀{p:Option Int},p=none->r9 p:=λe i q=>by rw [e] at q;contradiction
 have a:∀{i:Int},0<=i->r9 (some i):=λh d e=>d3 e▸h
 induction l using AV.casesOn with
 |none=>
  induction af using AV.casesOn with
  |none=>exact ⟨.inl rfl,.inl rfl,b rfl,b rfl,(d3 h).symm.trans (N5 ..).symm⟩
  |int i=>exact iK (Lu h) λz e=>⟨.inl rfl,.inr ⟨_,rfl⟩,b rfl,a z,e.symm⟩
  |_=>contradiction
 |int c=>
  induction af using AV.casesOn with
  |none=>exact iK (Lu h) λz e=>⟨.inr ⟨_,rfl⟩,.inl rfl,a z,b rfl,e.symm.trans (congrArg (v5 c.toNat) (N5 ..).symm)⟩
  |int i=>exact iK (Lu h) λz e=>⟨.inr ⟨_,rfl⟩,.inr ⟨_,rfl⟩,a z.1,a z.2,e.symm⟩
  |_=>contradiction
 |_=>contradiction
theorem Dv (l:List h) (a b:Nat):(l.drop (min a l.length)).take (min b l.length -min a l.length)=(l.take b).drop a:=by
 rw [B9]
 rcases uj a l.length with d |d
 .rw [j3 d]
  rcases uj b l.length with c |c
  .rw [j3 c]
  .rw [tX c,mZ (gu ey),mZ (n1 ey (Nat.sub_le_sub_right c _))]
 .rw [tX d,GK d,GK (eJ _),QZ,QZ]
theorem qN (q:RV c H J l) (a:l= .none\/∃i,l= .int i):K8 J (pM l):=by
 rcases a with rfl |⟨i,rfl⟩
 .obtain rfl:=qF q;exact .none
 .refine rY J (gn q) λt=>?_;exact .int i t
variable {cR cS:Option Int}
theorem vM (a:Array eH) (c:r9 cR) (b:r9 cS):KN a cR cS none=((a.toList.take (pW cS a.size)).drop (nu cR)).toArray:=by
 have e:ub cR cS none a.size=(((min (nu cR) a.size:Nat):Int),((min (pW cS a.size) a.size:Nat):Int),1):=by
  simp only [ub,KQ,show (1:Int)>0 by decide,if_true]
  congr 1
  .cases cR with
   |none=>simp [nu]
   |some i=>
    have:=c i rfl
    simp only [nu,if_neg (show ¬i<0 by exact oA (c i rfl))];exact V7 this
  .congr 1
   cases cS with
   |none=>simp [pW]
   |some i=>
    have:=b i rfl
    simp only [pW,if_neg (show ¬i<0 by exact oA (b i rfl))];exact V7 this
 unfold KN
 rw [e]
 simp only [sliceRange_one,pick_run]
 rw [<-Dv,eB]
theorem yh {Q:Int×Int×Nat->eL->Prop} (q:m.heap.IsSliceOf z J aT .none) (w:K8 J cR) (s:K8 aT cS) (n:r9 cR) (j:r9 cS) (h:Q (((min (nu cR) a:Nat):Int),1,min (pW cS a) a -min (nu cR) a) m):
 WE c L (wO (.ref z) (pure (a:Int))) Q m:=by
 refine gi (id q) λy d A b=>?_
 have l:∀{v:eH} {r:Option Int} {g:Option Int->eL->Prop},K8 v r->g r m->WE c L (SN v) g m:=λu h=>by
  induction u with
  |none=>exact U6 h
  |int i t=>exact slicePart_int h
 unfold wO SP
 refine b5 (b5 (t_ d b (x:=J) rfl (b5 (t_ d b (x:=aT) rfl (b5 (t_ d b (x:=.none) rfl (dj ?_)))))))
 refine b5 (U6 ?_)
 show f_ _ _ (if ((1:Int)==0)=true then _ else _) _ _ m
 rw [if_neg (by decide)]
 refine b5 (l w (b5 (l s (b5 (dj ?_)))))
 show f_ _ _ (match qe cR cS 1 (a:Int) with |(k,o)=>pure (k,(1:Int),ny k o 1)) _ _ m
 have e:qe cR cS 1 (a:Int)=(((min (nu cR) a:Nat):Int),((min (pW cS a) a:Nat):Int)):=by
  unfold qe
  simp only [show ¬((1:Int)<0) by decide,if_false]
  congr 1
  .cases cR with
   |none=>simp [nu]
   |some i=>
    have:=n i rfl
    simp only [nu,if_neg (show ¬i<0 by exact oA (n i rfl))];exact Vd this
  .cases cS with
   |none=>simp [pW]
   |some i=>
    have:=j i rfl
    simp only [pW,if_neg (show ¬i<0 by exact oA (j i rfl))];exact Vd this
 rw [e]
 have p:ny ((min (nu cR) a:Nat):Int) ((min (pW cS a) a:Nat):Int) 1=min (pW cS a) a -min (nu cR) a:=by
  unfold ny
  simp only [show (1:Int)>0 by decide,if_true,pL]
  by_cases f:((min (pW cS a) a:Nat):Int)>(min (nu cR) a:Nat)
  .rw [if_pos f];exact W5
  .rw [if_neg f];exact W6 f
 show f_ _ _ (pure (((min (nu cR) a:Nat):Int),(1:Int),ny ((min (nu cR) a:Nat):Int) ((min (pW cS a) a:Nat):Int) 1)) _ _ m
 rw [p]
 exact dj h
theorem xk (i:m.heap.get? z=some (gr "tuple" bf a)) (j:m.heap.IsSliceOf aV J aT .none) (q:K8 J cR) (n:K8 aT cS) (r:r9 cR) (p:r9 cS) (w:(bf.toList.take (pW cS bf.size)).drop (nu cR)=bf.toList->aG (.ref z) m) (h:aG (.ref m.heap.objs.size) {m with heap:=m.heap.push (gr "tuple" ((bf.toList.take (pW cS bf.size)).drop (nu cR)).toArray 0)}) (k:bf.size<=x7):WE c L (yS (.ref z) (.ref aV)) aG m:=by
 have d:IsTup m.heap z bf:=sZ _ i rfl _ rfl
 have v:m.TypeIs (.ref z) "tuple":=ei _ i rfl
 refine gi (id j) λl o u x=>?_
 have t:m.TypeIs (.ref aV) "slice":=ei l o u
 have f:sizeOk (.seq ((bf.toList.take (pW cS bf.size)).drop (nu cR)).toArray):=by
  show ((bf.toList.take (pW cS bf.size)).drop (nu cR)).toArray.size<=x7
  rw [j4,ey,fR,eB]
  exact a_ (jQ _ _) (a_ (qg _ _) k)
 unfold yS
 try with_reducible refine f5 ?_
 first |refine b5 (dj ?_) |skip
 refine b5 (t9 d.typeIs (by decide) ?_)
 refine b5 (pQ (name:=iV "__getitem__") d.typeIs Aa
  (nc Aa d.typeIs entry_tuple_getitem ?_ (args_tuple_getitem _ _)))
 show f_ _ _ (wN (.ref z)>>= _) _ _ m
 refine b5 (tupleItemsOf_ d ?_)
 refine b5 (sq t ?_)
 rw [if_pos (by decide)]
 refine b5 (yh j q n r p ?_)
 have s:((eQ (min (pW cS bf.size) bf.size -min (nu cR) bf.size)).filterMap λ(a:Nat)=>bf[(((min (nu cR) bf.size:Nat):Int)+(a:Int)*1).toNat]?).toArray=((bf.toList.take (pW cS bf.size)).drop (nu cR)).toArray:=by
  have e:(λ(a:Nat)=>bf[(((min (nu cR) bf.size:Nat):Int)+(a:Int)*1).toNat]?)=λa=>bf[min (nu cR) bf.size+a]? :=by
   funext a
   have:(((min (nu cR) bf.size:Nat):Int)+(a:Int)*1).toNat=min (nu cR) bf.size+a:=by exact WV
   rw [this]
  rw [e]
  have:=pick_run bf (min (nu cR) bf.size) (min (pW cS bf.size) bf.size -min (nu cR) bf.size)
  rw [KU] at this
  rw [<-Dv,eB,<-this]
  rfl
 show f_ _ _ (if (((min (nu cR) bf.size:Nat):Int)==0&&(1:Int)==1&&(min (pW cS bf.size) bf.size -min (nu cR) bf.size)==bf.size)=true then _ else _) _ _ m
 by_cases b:(((min (nu cR) bf.size:Nat):Int)==0&&(1:Int)==1&&(min (pW cS bf.size) bf.size -min (nu cR) bf.size)==bf.size)=true
 .rw [if_pos b]
  simp only [eV,beq_iff_eq] at b
  have g:=w (by rw [<-Dv,eB,b.2,show min (nu cR) bf.size=0 by exact Int.ofNat_eq_zero.mp b.1.1,rG,mZ (by simp)])
  unfold SM
  refine b5 (b5 (sq v (dj ?_)))
  rw [if_pos (by decide)]
  refine b5 (nE ?_)
  first
   |exact dj (ei _ rfl (dj g))
   |exact b5 (dj (dj ⟨_,rfl,dj g⟩))
   |exact b5 (dj ⟨_,rfl,dj g⟩)
 .rw [if_neg b,s]
  first
   |exact b5 (m:=nF _) (ko (dj (ei _ rfl (dj h))) f)
   |exact b5 (m:=nF _) (ko (b5 (dj (dj ⟨_,rfl,dj h⟩))) f)
   |exact b5 (b5 (m:=nF _) (ko (dj (dj ⟨_,rfl,dj h⟩)) f))
   |exact b5 (b5 (m:=nF _) (ko (dj ⟨_,rfl,dj h⟩) f))
variable {cT:eH} {b7:AV}
theorem LQ (r:R c b m) (s:RV c m.heap J l) (B:m.heap.IsSliceOf z aT cT .none) (C:RV c m.heap aT af) (D:RV c m.heap cT b7) (h:G7 b n l af b7):
 WE c L (yS J (.ref z)) (k4 c b m n) m:=by
 cases h with
 | @tup d F _ _ i h=>
  refine g0 J (iB s) λa M K e j q=>?_
  refine qk (Ay i) λx w t u v=>?_;clear s i;subst v
  have f:M.size=d.length:=by rw [<-q.length,eB]
  have y:((d.take (pW (pM b7) d.length)).drop (nu (pM af))).length<=fE:=by rw [ey,fR];exact a_ (jQ _ _) (a_ (qg _ _) (n1 f.symm j))
  refine xk e B (qN C x) (qN D w) t u (λG=>?_) ?_ (a_ j hX)
  .refine post_of r (g_ _) (.tup e j ?_) h
   have:=((q.take (pW (pM b7) d.length)).drop (nu (pM af)))
   rw [f] at G;rwa [G] at this
  .exact uA r (by rw [f];exact (q.take _).drop _) y h
 | @list a d F _ _ e i h=>
  obtain rfl:=gM s
  refine qk (Ay i) λx w t u v=>?_;clear i s;subst v
  refine gp (r.isList e) λp K g q j N f=>?_
  have y:((d.take (pW (pM b7) d.length)).drop (nu (pM af))).length<=fE:=by rw [ey,fR];exact a_ (jQ _ _) (a_ (qg _ _) j)
  refine ug N B (qN C x) (qN D w) .none (by simp) ?_ (a_ (by exact n1 f j) hX)
  rw [vM p t u]
  exact nY r (a:=0) (by rw [f];exact (q.take _).drop _) y h
 | @BM d F _ _ i h=>
  refine Lm J (LA s) λa p I=>mV I λA H E=>?_
  have e:m.heap.IsList a p:=by refine eS A λo A O=>?_;exact ei o (r.old _ _ A) O
  refine qk (Ay i) λx w t u v=>?_;clear s i A;subst v
  have q:hU c m.heap p.toList (d.map AV.int):=LD H
  have f:p.size=(d.map AV.int).length:=by rw [<-q.length,eB]
  have y:(((d.map AV.int).take (pW (pM b7) (d.map AV.int).length)).drop (nu (pM af))).length<=fE:=by rw [ey,fR];exact a_ (jQ _ _) (a_ (qg _ _) (n1 f.symm E))
  refine ug e B (qN C x) (qN D w) .none (by simp) ?_ (a_ (by exact E) hX)
  rw [vM p t u]
  exact nY r (a:=0) (by rw [f];exact (q.take _).drop _) y h
theorem BR (a:Array eH):KN a none none (some (-1))=a.toList.reverse.toArray:=by
 have e:ub none none (some (-1)) a.size=((a.size:Int) -1,-1,-1):=by
  simp [ub]
 unfold KN
 rw [e]
 congr 1
 have g:YC ((a.size:Int) -1) (-1) (-1)=(eQ a.size).map λ(k:Nat)=>(a.size -1 -k:Nat):=by
  unfold YC
  simp only [show ¬((-1:Int)>0) by decide,if_false]
  by_cases h:(a.size:Int) -1> -1
  .have e:(((a.size:Int) -1 - -1 - -1 -1) / - -1).toNat=a.size:=by simp
   simp only [h,if_true,e]
   apply fk
   intro k b
   have:=eU.mp b
   exact Vg this
  .have:a.size=0:=z0 h
   simp [this]
 rw [g,KU]
 apply yZ
 intro i
 have j:(vJ ((λx=>a[x]?)∘λk=>a.size -1 -k) (eQ a.size))=(eQ a.size).map λk=>a.toList.getD (a.size -1 -k) .none:=by
  have m:∀l:List Nat,(∀k∈l,k<a.size)->vJ ((λx=>a[x]?)∘λk=>a.size -1 -k) l=l.map λk=>a.toList.getD (a.size -1 -k) .none:=by
   intro l
   induction l with
   |nil=>intro _;rfl
   |cons k l d=>
    intro c
    have:=c k (.head _)
    rw [qT,eG,d λz f=>c z (.tail _ f)]
    simp only [ou]
    rw [d_,gE,ow (by exact EC this)]
    rfl
  exact m _ λk b=>eU.mp b
 rw [j,ed]
 by_cases h:i<a.size
 .rw [ju h,List.getElem?_reverse (by simpa using h)]
  simp only [jV,eB]
  rw [d_,gE,ow (by exact EC h)]
  rfl
 .rw [i_ (by simpa using h),i_ (by simpa using h)]
  rfl
variable {bF:Tok}
theorem LR (r:R c b m) (f:RV c m.heap J l) (i:m.heap.IsSliceOf z .none .none (.int (-1) bF)) (h:OL b n l):
 WE c L (yS J (.ref z)) (k4 c b m n) m:=by
 induction h with
 | @mk a t e h=>
  obtain rfl:=gM f
  refine gp (r.isList e) λs p g q d o j=>?_
  refine ug o i .none .none (.int (-1) bF) (by simp) ?_ (a_ (by exact n1 j d) hX)
  rw [BR]
  exact nY r (a:=0) (by simpa using q.rev) (by simpa using d) h
theorem Cr (h:itemAt j p=some l) (d:j.length<=fE):-2 ^ 63<=p/\p<2 ^ 63/\∃b,Sy p j.length=some b/\j[b]? =some l/\((0<=p/\b=p.toNat)\/(p<0/\-(j.length:Int)<=p/\b=(p+j.length).toNat)):=by
 unfold fE at d
 unfold itemAt at h
 split at h
 .rename_i a
  have c:=(ew.mp h).1
  refine ⟨(by exact jD (by decide) a),(by exact S_ c d),p.toNat,?_,h,(.inl ⟨a,rfl⟩)⟩
  unfold Sy
  simp only [if_neg (show ¬p<0 by exact oA a)]
  rw [if_pos (by simp;exact ⟨a,(Int.toNat_lt a).mp c⟩)]
 .rename_i a
  split at h
  .rename_i f
   have c:=(ew.mp h).1
   have e:j.length -p.natAbs=(p+j.length).toNat:=kb a
   refine ⟨(Q8 (a_ f (a_ d (by decide)))).1,(by exact zB (C9.mp a) (by decide)),(j.length -p.natAbs),?_,h,(.inr ⟨by exact OF a,kd a f,e⟩)⟩
   unfold Sy
   simp only [if_pos (show p<0 by exact OF a)]
   rw [if_pos (by simp;exact kc a f),e]
  .contradiction
theorem oW (q:hU c H (cE.map (·.2)) (aC.map (·.2))) (e:aC.map (·.1)=cE.map (λg=>.int g.1)) (b:(aC.map (·.1)).Nodup) (a:(AV.int p,l)∈aC):
 ∃v,jm cE p=some v/\RV c H v l:=by
 induction aC generalizing cE with
 |nil=>exact (ee a).elim
 |cons g ps d=>
  induction cE using ej with
  |nil=>clear d b a q;contradiction
  |cons f cE=>
   simp only [eG,ix] at e
   rw [eG,eT] at b
   cases q with
   |cons h i=>
    rcases eK.mp a with rfl |a
    .simp only [AV.int.injEq] at e
     exact ei f.2 (by simp [jm,e.1]) h
    .refine eS (d i e.2 b.2 a) λv k r=>?_
     refine ei v ?_ r
     have j:¬f.1=p:=λm=>b.1 (by rw [e.1,m];exact ck.mpr (ei _ a rfl))
     simpa [jm,qM,j] using k
theorem JI {b:List (AV×gX×eH)} (q:hU c H (b.map (·.2.2)) (aC.map (·.2))) (e:aC.map (·.1)=b.map (·.1)) (f:(aC.map (·.1)).Nodup) (d:(l,af)∈aC):
 ∃a v,Sb b l=some (a,v)/\RV c H v af:=by
 induction aC generalizing b with
 |nil=>exact (ee d).elim
 |cons p ps h=>
  induction b using ej with
  |nil=>clear h f d q;contradiction
  |cons g b=>
   simp only [eG,ix] at e
   rw [eG,eT] at f
   cases q with
   |cons i j=>
    rcases eK.mp d with rfl |d
    .exact nA g.2.1 g.2.2 (by simp [Sb,<-e.1]) i
    .refine i5 (h j e.2 f.2 d) λa v m r=>?_
     refine nA a v ?_ r
     have k:¬g.1=l:=λn=>f.1 (by rw [e.1,n];exact ck.mpr (ei _ d rfl))
     simpa [Sb,qM,k] using m
theorem LS (I:mO a L) (r:R c b m) (w:RV c m.heap J l) (s:RV c m.heap aT af) (h:zD b n l af):
 WE c L (yS J aT) (k4 c b m n) m:=by
 induction h using zD.casesOn with
 | @tup G i z A h=>
  refine g0 J (iB w) λK O k e p q=>?_
  refine rY aT (gn s) λt=>?_
  have v:O.size=G.length:=by rw [<-q.length,eB]
  refine Ie (Cr A (by exact n1 v.symm p)) λF E j B x _=>?_
  refine eS (q.get x) λu f o=>?_
  exact P.getItem_tuple e F E (by rw [v];exact B) (by rw [<-gE];exact f) (post_of r (g_ _) o h)
 | @list K G i z e A h=>
  obtain rfl:=gM w
  refine rY aT (gn s) λt=>?_
  refine gp (r.isList e) λY k g q p S v=>?_
  refine Ie (Cr A p) λF E j B x W=>?_
  refine eS (q.get x) λu f o=>?_
  rw [gE] at f
  have Q:=post_of r (g_ _) o h
  clear I r e A h w s g q p B x o;rcases W with ⟨H,rfl⟩ |⟨H,V,rfl⟩
  .exact wpAny_getItem_list S H E f Q
  .exact wpAny_getItem_list_neg S H (by rw [v];exact V) F (by rw [v];exact f) Q
 | @dict K kn af l e y M N=>
  obtain rfl:=gM w
  refine iK (r.oP e) λd p=>?_
  rcases y with ⟨⟨i,rfl⟩,U⟩ |⟨y,T⟩
  .refine gi (d.GL U) λX C q e=>?_
   refine rY aT (gn s) λt=>?_
   refine eS (oW q e d.nodup M) λu f o=>?_
   exact wpAny_getItem_of (pH _ _ i t) C.dictOf.mapOf f (post_of r (iO _ _) o N)
  .refine gi (d.Vs T) λkq C q e=>?_
   refine j_ y.1 λG D=>?_;subst D
   refine mW (iB s) λkm O k D g p Z=>?_;subst D
   refine i5 (JI q e d.nodup M) λkl u f o=>?_
   exact wpAny_getItem_heap (knd:=tupK c) (vg I) ⟨y,s⟩ C f (post_of r (iO _ _) o N)
variable {ar:w0}
variable {aH:gc} {D:CE}
variable {aW:gc} {aL:CE}
section
section
variable {B:Base}
theorem vi (h:xb a0=true) (a:zw) (r:List gc):ng (a0::r) a=(false,vV a0 a)::ng r a:=by
 rcases a0 with ⟨⟩<;>first |rfl |contradiction
theorem Dw:LJ c a v [] .nil:=λA e m b s Q d f F r h=>Wu ⟨[],b,.nil,r,.refl,rfl,h⟩
theorem xl (q:xb a0=true) (u:SE c a v a0 g) (n:LJ c a v az ar):LJ c a v (a0::az) (.cons g ar):=λA b m k s Q w d F r h=>
 Wv (fZ (u A b m k s _ d F r h) (λH C x E j e i l=>xg (n A b m E C _ w d (F.step r i) e l) (λI G D B o y f p=>iK p λt z=>⟨x::D,B,.cons (j.step e f) o,y,i.trans f,congrArg rW t,z⟩))) (vi q b az)
theorem OV (f:ar.len<20) (n:LJ c a v az ar):SE c a v (.List az aa) (.lst ar):=λA i m j s Q o F r h=>
 wpAny_List_spliced (xg (n A i m j s _ aa o F r h) (λd u q w e t g p=>iK p λb l=>by
  have:d.length=q.length:=e.length
  refine ⟨by rw [nC];exact n1 (this.trans b) (a_ (eA f) (by decide)),?_⟩
  exact (nY t (bf:=d.toArray) (a:=0) (by simpa using e) (by unfold fE;exact n1 b (a_ (eA f) (by decide))) l).trans g))
theorem IG {x1} (f:ar.len<20) (n:LJ c a v az ar):SE c a v (.Tuple az x1 aa) (.tup ar):=λA i m j s Q o F r h=>
 wpAny_Tuple_spliced (xg (n A i m j s _ aa o F r h) (λd u q w e t g p=>iK p λb l=>by
  have:d.length=q.length:=e.length
  refine ⟨by rw [nC];exact n1 (this.trans b) (a_ (eA f) (by decide)),?_⟩
  exact (uA t (bf:=d.toArray) (a:=0) (by simpa using e) (by unfold fE;exact n1 b (a_ (eA f) (by decide))) l).trans g))
theorem OW (k:Th cD=some bM) (t:SE c a v a0 g) (B:SE c a v aH D):SE c a v (.BinOp a0 cD aH aa) (.bin bM g D):=λA b m o s Q d F r h=>
 wpAny_BinOp (fZ (t A b m o s _ d F r h) (λH C x E l f j n=>fZ (B A b m E C _ d (F.step r j) f n) (λw G y I q u i z=>el (LM k u (l.step f i) q z) (λ_ _ p=>(p.trans i).trans j) λ_ _ e=>e)))
theorem IH (k:SE c a v a0 g):SE c a v (.UnaryOp .USub a0 aa) (.neg g):=λA e m i s Q j F r h=>
 Jp (fZ (k A e m i s _ j F r h) (λn o x p f l d b=>by
  induction b with
  |mk b=>
   refine rY n (gn f) λt=>?_
   exact BA ((post_of l (iO _ _) (.int _ _) b).trans d)))
theorem OX (p:SE c a v a0 g):SE c a v (.UnaryOp .Not a0 aa) (.not g):=λA j m l s Q n F r h=>
 Jp (fZ (p A j m l s _ n F r h) (λw t x u k e i d=>by
  refine eS d λb o d=>?_
  exact not_of (ti e k o λq f=>(post_of e f (.bool _) d).trans i)))
theorem OY (o:ST c a v a0 g) (q:SE c a v aH D) (t:SE c a v aW aL):SE c a v (.IfExp a0 aH aW aa) (.ite g D aL):=λA d m n s Q f F r h=>
 wpAny_IfExp (q0 (o A d m n s _ f F r h) (λa0 k l j b i=>by
  induction a0 with
  |true=>exact el (q A d m l k _ f (F.step r b) j i) (λ_ _ p=>p.trans b) λ_ _ e=>e
  |false=>exact el (t A d m l k _ f (F.step r b) j i) (λ_ _ p=>p.trans b) λ_ _ e=>e))
theorem JJ {f:YV} (h:SE c a v a0 g):SE c a v (.BoolOp f [a0] aa) g:=λA b m d s Q e F r i=>BoolOp_one (h A b m d s Q e F r i)
theorem snd_and (n:SE c a v a0 g) (u:SE c a v (.BoolOp .And (aH::az) aa) D):SE c a v (.BoolOp .And (a0::aH::az) aa) (.and g D):=λA j m o s Q l F r h=>
 BoolOp_and (fZ (n A j m o s _ l F r h) (λy z x w k e f d=>by
  refine eS d λt i d=>?_
  refine ti e k i λq b=>?_
  clear n h i;induction t with
  |true=>exact el (u A j m w q _ l (F.step r (f.trans (.grow b))) (e.grow b) d) (λ_ _ p=>p.trans (f.trans (.grow b))) λ_ _ a0=>a0
  |false=>exact (post_of e b (k.grow b) d).trans f))
theorem Q_ (n:SE c a v a0 g) (u:SE c a v (.BoolOp .Or (aH::az) aa) D):SE c a v (.BoolOp .Or (a0::aH::az) aa) (.or g D):=λA j m o s Q l F r h=>
 BoolOp_or (fZ (n A j m o s _ l F r h) (λy z x w k e f d=>by
  refine eS d λt i d=>?_
  refine ti e k i λq b=>?_
  clear n h i;induction t with
  |true=>exact (post_of e b (k.grow b) d).trans f
  |false=>exact el (u A j m w q _ l (F.step r (f.trans (.grow b))) (e.grow b) d) (λ_ _ p=>p.trans (f.trans (.grow b))) λ_ _ a0=>a0))
theorem xm (h:xb a0=true) (a:Et):Jr a a0=false:=by
 rcases a0 with ⟨⟩<;>first |rfl |contradiction
section
variable (HB:gU B) (HD:q6 B)
include HB HD
theorem LU {n:Nat} {ns:gm} {l e:gc} {op:Et} {a b:CE} {pos:EB} (ha:SE B n ns l a) (hc:xb e=true) (hb:SE B n ns e b):SE B n ns (.Compare l [op] [e] pos) (.cmp a (zE op) b):=λA env m st s Q hr F r h=>
 wpAny_Compare1 (fZ (ha A env m st s _ hr F r h) (λv s₁ x st₁ qv r₁ y₁ h₁=>fZ (hb A env m st₁ s₁ _ hr (F.step r y₁) r₁ h₁) (λw s₂ y st₂ qw r₂ y₂ h₂=>el (vh HB HD hr r₂ (qv.step r₁ y₂) qw h₂) (λc s₃ zf=>gi zf λb e g hp=>e▸((post_of r₂ g (.bool b) hp).trans y₂).trans y₁) λ_ _ e=>e))) (xm hc op)
theorem LV {n:Nat} {ns:gm} {l e f:gc} {op op':Et} {a b c:CE} {pos:EB} (ha:SE B n ns l a) (hc:xb e=true) (hb:SE B n ns e b) (hc':xb f=true) (hf:SE B n ns f c):
 SE B n ns (.Compare l [op,op'] [e,f] pos) (.EP a (zE op) b (zE op') c):=λA env m st s Q hr F r h=>
 Compare_chain (fZ (ha A env m st s _ hr F r h) (λv s₁ x st₁ qv r₁ y₁ h₁=>chain_link (fZ (hb A env m st₁ s₁ _ hr (F.step r y₁) r₁ h₁) (λw s₂ y st₂ qw r₂ y₂ h₂=>el (vh HB HD hr r₂ (qv.step r₁ y₂) qw h₂) (λc s₃ zf=>gi zf λb e g hp=>by
  subst e
  have y₃:=y₁.trans (y₂.trans (Ex g))
  refine oo ?_
  induction b with
  |false=>simp only [fW,if_false] at hp⊢;exact ((post_of r₂ g (.bool _) hp).trans y₂).trans y₁
  |true=>
   simp only [if_true] at hp⊢
   refine chain_last (fZ (hf A env m st₂ s₃ _ hr (F.step r y₃) (r₂.grow g) hp) (λu s₄ z st₄ qu r₄ y₄ h₄=>
    el (vh HB HD hr r₄ ((qw.grow g).step (r₂.grow g) y₄) qu h₄) (λc s₅ zf=>gi zf λb e g' hp=>e▸((post_of r₄ g' (.bool b) hp).trans y₄).trans y₃) λ_ _ e=>e))) λ_ _ e=>e)))) (by
  show Jr op' f=false
  exact xm hc' op')
theorem JK {n:Nat} {ns:gm} {l e:gc} {op:Et} {a b:CE} {pos:EB} (ha:SE B n ns l a) (hc:xb e=true) (hb:SE B n ns e b):ST B n ns (.Compare l [op] [e] pos) (.cmp a (zE op) b):=λA env m st s Q hr F r h=>
 wpAny_isTrue_Compare1 (fZ (ha A env m st s _ hr F r h) (λv s₁ x st₁ qv r₁ y₁ h₁=>fZ (hb A env m st₁ s₁ _ hr (F.step r y₁) r₁ h₁) (λw s₂ y st₂ qw r₂ y₂ h₂=>el (vh HB HD hr r₂ (qv.step r₁ y₂) qw h₂) (λc s₃ zf=>gi zf λb e g hp=>e▸oo ⟨st₂,r₂.grow g,y₁.trans (y₂.trans (.grow g)),tb hp⟩) λ_ _ e=>e))) (xm hc op)
theorem JL {n:Nat} {ns:gm} {l e f:gc} {op op':Et} {a b c:CE} {pos:EB} (ha:SE B n ns l a) (hc:xb e=true) (hb:SE B n ns e b) (hc':xb f=true) (hf:SE B n ns f c):
 ST B n ns (.Compare l [op,op'] [e,f] pos) (.EP a (zE op) b (zE op') c):=λA env m st s Q hr F r h=>
 isTrue_chain (fZ (ha A env m st s _ hr F r h) (λv s₁ x st₁ qv r₁ y₁ h₁=>test_link (fZ (hb A env m st₁ s₁ _ hr (F.step r y₁) r₁ h₁) (λw s₂ y st₂ qw r₂ y₂ h₂=>el (vh HB HD hr r₂ (qv.step r₁ y₂) qw h₂) (λc s₃ zf=>gi zf λb e g hp=>by
  subst e
  have y₃:=y₁.trans (y₂.trans (Ex g))
  refine oo ?_
  induction b with
  |false=>simp only [fW,if_false] at hp⊢;exact ⟨st₂,r₂.grow g,y₃,tb hp⟩
  |true=>
   simp only [if_true] at hp⊢
   refine test_last (fZ (hf A env m st₂ s₃ _ hr (F.step r y₃) (r₂.grow g) hp) (λu s₄ z st₄ qu r₄ y₄ h₄=>
    el (vh HB HD hr r₄ ((qw.grow g).step (r₂.grow g) y₄) qu h₄) (λc s₅ zf=>gi zf λb e g' hp=>e▸oo ⟨st₄,r₄.grow g',y₃.trans (y₄.trans (.grow g')),tb hp⟩) λ_ _ e=>e))) λ_ _ e=>e)))) (by
  show Jr op' f=false
  exact xm hc' op')
end
theorem Az (w:SE c a v a0 g) (u:∀(m:MM) (d:AS) (Q:Bool->AS->Prop),VT PG (eE PG a) g (VE PG (eE PG a) g) m d Q=VE PG (eE PG a) g m d λe d=>∃b,nM d e b/\Q b d) (q:∀f k,GQ a0 f k=(do let e <-k;Gz a0.pos;yR [e] (EA e))):ST c a v a0 g:=λA f m d s Q p F r h=>by
 rw [u] at h
 exact isTrue_plain (fZ (w A f m d s _ p F r h) (λe B x y o l n i=>by
  refine eS i λb t i=>?_
  exact ti l o t λz j=>⟨y,l.grow j,n.trans (.grow j),i⟩)) (q _ _)
theorem LW (l:ST c a v a0 g):ST c a v (.UnaryOp .Not a0 aa) (.not g):=λA b m f s Q i F r h=>
 isTrue_not (el (l A b m f s _ i F r h) (λ_ _ ⟨e,j,k,d⟩=>⟨e,j,k,d⟩) λ_ _ a0=>a0)
theorem LX (o:ST c a v a0 g) (q:ST c a v aH D) (t:ST c a v aW aL):ST c a v (.IfExp a0 aH aW aa) (.ite g D aL):=λA d m n s Q f F r h=>
 isTrue_IfExp (q0 (o A d m n s _ f F r h) (λa0 k l j b i=>by
  induction a0 with
  |true=>exact el (q A d m l k _ f (F.step r b) j i) (λ_ _ p=>p.trans b) λ_ _ e=>e
  |false=>exact el (t A d m l k _ f (F.step r b) j i) (λ_ _ p=>p.trans b) λ_ _ e=>e))
theorem Hf {i:YV} (h:ST c a v a0 g):ST c a v (.BoolOp i [a0] aa) g:=λA b m d s Q e F r f=>by
 induction i using BoolOp.casesOn with
 |And=>exact YW (el (h A b m d s Q e F r f) (λt j p=>by induction t using j5 with
  |true=>exact isTrue_and_nil p
  |false=>exact p) λ_ _ a0=>a0)
 |Or=>exact isTrue_or (el (h A b m d s Q e F r f) (λt j p=>by induction t using j5 with
  |true=>exact p
  |false=>exact isTrue_or_nil p) λ_ _ a0=>a0)
theorem LY (o:ST c a v a0 g) (l:ST c a v (.BoolOp .And (aH::az) aa) D):ST c a v (.BoolOp .And (a0::aH::az) aa) (.and g D):=λA d m k s Q f F r h=>
 YW (q0 (o A d m k s _ f F r h) (λt n i j b e=>by
  induction t with
  |true=>exact el (l A d m i n _ f (F.step r b) j e) (λ_ _ p=>p.trans b) λ_ _ a0=>a0
  |false=>exact ⟨i,j,b,e⟩))
theorem OZ (o:ST c a v a0 g) (l:ST c a v (.BoolOp .Or (aH::az) aa) D):ST c a v (.BoolOp .Or (a0::aH::az) aa) (.or g D):=λA d m k s Q f F r h=>
 isTrue_or (q0 (o A d m k s _ f F r h) (λt n i j b e=>by
  induction t with
  |true=>exact ⟨i,j,b,e⟩
  |false=>exact el (l A d m i n _ f (F.step r b) j e) (λ_ _ p=>p.trans b) λ_ _ a0=>a0))
end
end
variable {cF:AO}
variable {aX:zt}
variable {bO:Qp}
section
section
variable {B:Base}
noncomputable def Place (a p:gX) (o₀ o:AO):Prop:=(p=a/\(∀c dx fs,o₀≠.inst c dx fs)/\∀c dx fs,o≠.inst c dx fs)\/∃c fs fs',o₀= .inst c p fs/\o= .inst c p fs'
theorem R.upd {o:AO} {t:Nat} (r:R c b m) (e:b z=some ay) (i:iE aV m.heap H) (l:Place z aV ay o) (p:RO c H z o):
 R c (b.set z o) {m with heap:=H,toks:=t}/\St c b m (b.set z o) {m with heap:=H,toks:=t}:=by
 have s:ic c b aV:=by
  clear r i p;rcases l with ⟨rfl,_⟩ |⟨j,g,B,rfl,rfl⟩
  .exact .inl (by rw [e];simp)
  .exact .inr (.inl (qB z j g e))
 have u:∀a E,b a=some E->a≠z->a≠aV:=by
  intro a E d k M
  clear i p s;rcases l with ⟨rfl,_⟩ |⟨j,g,B,rfl,rfl⟩
  .exact k M
  .clear k;subst M;rw [(r.Cq z j a g e).1] at d;contradiction
 have y:∀a j n g,b a=some (.inst j n g)->a≠z->n≠aV:=by
  intro a j n g d k P
  clear i p s u;subst P
  rcases l with ⟨rfl,_⟩ |⟨J,B,L,rfl,rfl⟩
  .rw [(r.Cq a j n g d).1] at e;contradiction
  .exact k ((r.Cq z J n B e).2.2 a j g d)
 have A:∀x E,m.heap.get? x=some E->f' E->H.get? x=some E:=by
  intro x E f T
  rewrite [i.2 x λq=>?_];exact f
  clear e i l p u y;subst q
  refine eS (r.oC s) λU v Q=>?_
  rw [f] at v;(injection v with v;subst v);exact Q T
 have D:∀a,ic c (b.set z o) a->ic c b a:=by
  clear r i p s u y A;rintro a (h |⟨x,j,g,h⟩ |h)
  .by_cases d:a=z
   .exact .inl (by rw [d,e];simp)
   .rw [gv d] at h;exact .inl h
  .by_cases f:x=z
   .subst f;rw [gW] at h;(injection h with h;subst h)
    rcases l with ⟨_,_,w⟩ |⟨J,B,L,rfl,C⟩
    .exact absurd rfl (w _ _ _)
    .cases (C);exact .inr (.inl (qB x _ _ e))
   .rw [gv f] at h;exact .inr (.inl (qB x j g h))
  .exact .inr (.inr h)
 have G:aV≠c.tab:=by
  clear i p s u y A D;rcases l with ⟨rfl,_⟩ |⟨j,g,B,rfl,rfl⟩
  .intro q;subst q;rw [r.vC] at e;contradiction
  .exact (r.Cq z j aV g e).2.1
 refine ⟨⟨λa I d=>?_,λa I d=>?_,λa d=>r.new a (D a d),λa j n g d=>?_,?_,?_,r.gens,r.os⟩,⟨λa I d S=>?_,λa d=>.inl (D a d)⟩⟩
 .clear e l s D G;by_cases k:a=z
  .clear r i u y A;subst k;rw [gW] at d;(injection d with d;subst d);exact p
  .rw [gv k] at d
   exact (r.objs a I d).mono A (λx f=>(i.2 a (u a I d k)).trans f) λj n g q x f=>(i.2 n (y a j n g (q▸d) k)).trans f
 .have:=r.old a I d
  exact (i.2 a λq=>by clear e i l p u y A D G;subst q;rw [r.new a s] at d;contradiction).trans this
 .clear i p s u y A D G;by_cases k:a=z
  .subst k;rw [gW] at d;(injection d with d;subst d)
   rcases l with ⟨_,_,w⟩ |⟨J,B,L,rfl,C⟩
   .exact absurd rfl (w _ _ _)
   .cases (C)
    refine mV (r.Cq a _ _ _ e) λF v w=>?_
    refine iz (by rw [gv (λq=>by rw [q,e] at F;contradiction)];exact F) v (λx c2 K f=>?_)
    by_cases O:x=a
    .exact O
    .rw [gv O] at f;exact w x c2 K f
  .rw [gv k] at d
   clear k;refine mV (r.Cq a j n g d) λF v w=>?_
   refine iz (by rw [gv (λq=>by rw [q,e] at F;contradiction)];exact F) v (λx c2 K f=>?_)
   clear r d F v;by_cases N:x=z
   .subst N;rw [gW] at f;(injection f with f;subst f)
    rcases l with ⟨_,_,C⟩ |⟨J,B,L,rfl,C⟩
    .exact absurd rfl (C _ _ _)
    .cases (C);exact w x _ _ e
   .rw [gv N] at f;exact w x c2 K f
 .clear i l p s u y A D G;by_cases k:c.tab=z
  .subst k;rw [r.vC] at e;contradiction
  .rw [gv k];exact r.vC
 .exact r.tab.mono A λo e=>(i.2 _ (nz G)).trans e
 .exact (i.2 a λq=>S (q▸s)).trans d
theorem LZ (r:R c b m) (e:b z=some ay) (g:iE aV m.heap H) (f:Place z aV ay cF) (j:RO c H z cF) (d:RV c H J l) (h:n l (b.set z cF)):
 k4 c b m n J {m with heap:=H,toks:=a}:=
 let ⟨z,i⟩:=r.upd (t:=a) e g f j
 ⟨l,_,d,z,i,h⟩
theorem R.nN (r:R c b m) (f:ic c b z) (g:iE z m.heap H):∀x a,m.heap.get? x=some a->f' a->H.get? x=some a:=λx a e h=>(g.2 x λq=>by
 clear g;subst q
 refine eS (r.oC f) λj d i=>?_
 rw [e] at d;obtain rfl:=d3 d;exact i h).trans e
theorem Hg (h:AT[a]? =some ao) (b:AT[d]? =some ao):a=d:=
 (iR (ew.mp h).1 (by decide+kernel:AT.Nodup)).mp (h.trans b.symm)
theorem AA (a:j7) (t:Tok):qc (.str a t) a=true:=by simp [qc]
theorem yj:qc (.str ao bF) cB=true↔ao=cB:=by simp [qc]
theorem II {e:pR} (c:e.key.isStr ao=false) (d:e.refKey=false):QW ao (e::bE)=QW ao bE:=by
 have b:(e::bE).any (·.refKey)=bE.any (·.refKey):=by rw [List.any_cons,d,Q2]
 have a:(e::bE).find? (·.key.isStr ao)=bE.find? (·.key.isStr ao):=by rw [qM,c]
 unfold QW
 rw [a]
 induction bE.find? (·.key.isStr ao) with
 |some _=>rfl
 |none=>simp only [b]
theorem E3 (q:yg c H bE aS) (i:AT[a]? =some ao) (b:aS.lookup a=some l):∃v,QW ao bE=some (some v)/\RV c H v l:=by
 induction q with
 |nil=>contradiction
 | @cons e y v bE aS n t g d k m h=>
  rw [eM] at b
  by_cases f:a=y
  .clear m h;subst f
   rw [beq_self_eq_true] at b;obtain rfl:=d3 b
   rw [i] at g;obtain rfl:=d3 g
   exact ei e.val (by simp [QW,qM,d,AA]) k
  .rw [beq_false_of_ne f] at b
   refine eS (h b) λw o p=>?_
   refine ei w ?_ p
   have j:qc e.key ao=false:=by
    rw [d,nL];intro z
    exact f (Hg i ((yj.mp z)▸g))
   rw [II j (by unfold DictEntry.refKey;rw [d])];exact o
theorem Ct (q:yg c H bE aS) (h:AT[a]? =some ao) (b:aS.lookup a=none):QW ao bE=some none:=by
 induction q with
 |nil=>rfl
 | @cons e y v bE aS n t i d k l g=>
  rw [eM] at b
  by_cases f:a=y
  .clear h i d k l g;subst f
   rw [beq_self_eq_true] at b;contradiction
  .rw [beq_false_of_ne f] at b
   have m:=g b
   have j:qc e.key ao=false:=by
    rw [d,nL];intro z
    exact f (Hg h ((yj.mp z)▸i))
   rw [II j (by unfold DictEntry.refKey;rw [d])];exact m
theorem E4 (q:yg c H bE aS) (b:AT[a]? =some ao) (i:RV c H J l):yg c H (Wq ao p (.str ao bF) J bE) (iy aS a l):=by
 induction q with
 |nil=>exact .cons ao bF b rfl i .nil
 | @cons e y w bE aS n h f d j o k=>
  unfold Wq;rw [vK]
  by_cases g:y=a
  .clear j k;subst g
   rw [b] at f;obtain rfl:=d3 f
   rw [if_pos (by rw [d];exact AA _ _),if_pos rfl]
   exact .cons ao h b d i o
  .have m:¬qc e.key ao=true:=by
    rw [d];intro z
    exact g (Hg f (by rw [yj.mp z];exact b))
   rw [if_neg m,if_neg g]
   exact .cons n h f d j k
theorem BS (a:List (Nat×AV)) (x:Nat) (u:AV):(iy a x u).map (·.1)=if x∈a.map (·.1) then a.map (·.1) else a.map (·.1)++[x]:=by
 induction a with
 |nil=>rfl
 |cons p a d=>
  obtain ⟨y,w⟩:=p
  rw [vK]
  by_cases c:y=x
  .clear d;subst c;simp
  .rw [if_neg c,eG,d]
   have:¬x=y:=λe=>c e.symm
   by_cases b:x∈a.map (·.1)
   .simp [b]
   .rw [if_neg b,if_neg (by simp only [eG,eK,not_or];exact ⟨this,b⟩)];rfl
theorem uC (h:(aS.map (·.1)).Nodup):((iy aS a l).map (·.1)).Nodup:=by
 rw [BS]
 split
 .exact h
 .rename_i f
  rw [eP]
  exact iz h (by simp) (λg d b c e=>by simp at c;subst c;subst e;exact f d)
theorem L0:∀(n:Nat) (l:List Nat),l.Nodup->(∀x∈l,x<n)->l.length<=n:=by
 intro n
 induction n with
 |zero=>
  intro l _ h
  induction l using ej with
  |nil=>exact eJ _
  |cons x l=>exact absurd (h x (.head _)) (o9 _)
 |succ n c=>
  intro l b h
  by_cases d:n∈l
  .have:=c (l.erase n) (b.erase n) λx a=>nh (eX (h x (List.mem_of_mem_erase a))) ((b.mem_erase_iff).mp a).1
   rw [List.length_erase_of_mem d] at this
   exact Nat.le_add_of_sub_le this
  .exact pK (c l b λx a=>nh (eX (h x a)) λe=>d (e▸a))
theorem L3 (q:yg c H bE aS) (a:(aS.map (·.1)).Nodup):bE.length=aS.length/\aS.length<=62:=by
 constructor
 .induction q with
  |nil=>rfl
  |cons _ _ _ _ _ _ b=>rw [eG,eT] at a;simp [b a.2]
 .rw [<-bb (f:=(·.1)) (as:=aS)]
  refine L0 62 _ a λx d=>?_
  clear a
  induction q with
  |nil=>contradiction
  |cons n t e _ _ _ b=>
   rcases eK.mp d with rfl |d
   .exact (ew.mp e).1
   .exact b d
theorem JM (q:RV c H J l):handedIn J=true:=by
 induction q using RV.casesOn with
 |bi n=>
  rcases n with _ |_ |_ |_ |_ |_ |_ |_ |_ |_ |n<;>first |rfl |decide+a
 |_=>rfl
theorem Dx (e:SI aX z=true) (j:sY aX (.ref z) ao=some (some J)) (l:SG aX J "__get__"=some (some aT)) (d:Wm aX J=some false) (i:YH ao cf=some (some cT)):
 findObj aX z (some cf) ao=some (.value cT):=by
 refine eS (any_some e) λn g m=>?_
 have a:∀{b c:Type} {o:Option b} {f:b->Option c} {J:b} {r:Option c},o=some J->f J=r->o.bind f=r:=λh k=>h▸k
 exact a g (a j (a l (a d (a ((if_pos m).trans i) rfl))))
theorem Iz.own (K:Iz c a bO) (b:AT[d]? =some ao) (e:YH ao cf=some (some J)):findObj c.K (c.ca a) (some cf) ao=some (.value J):=by
 induction h:bO.meths.lookup d with
 |none=>exact findObj_own K.dict (K.name d ao b h) rfl e
 |some f=>
  refine wW (K.Tt d ao f b h) λj m l k=>?_;refine j_ l λg i=>?_
  exact Dx K.dict j i k e
theorem Dy (q:RO c H z (.inst a d aS)):∃b k,H.get? z=some (ud (c.ca a) d)/\H.get? d=some (rx b k)/\yg c H b aS/\(aS.map (·.1)).Nodup/\a<10:=by
 cases q with
 |inst e f q g l=>exact qW _ _ e f q g l
section
variable (HB:gU B)
include HB
theorem gU.Hh {st:AS} {s:eL} (r:R B st s):B.K.In s.heap:=λa o e=>r.old a o (HB.Wd a o e)
theorem E5 {st:AS} {s:eL} {A:jc} (r:R B st s) {a c dx x:Nat} {fs:List (Nat×AV)} {nm:j7} {u:AV} {ex:Bool} {Q:AV->AS->Prop} (e:st a=some (.inst c dx fs)) (hx:AT[x]? =some nm) (hl:fs.lookup x=some u) (h:Q u st):
 WE B A (getAttr (.ref a) nm ex) (k4 B st s Q) s:=by
 refine gp (Dy (r.objs a _ e)) λes k e1 e2 q nd hc=>?_
 refine eS (HB.cls c hc) λC _ K=>?_
 refine eS (E3 q hx hl) λv hv qv=>?_
 exact get_value (HB.Hh r) (od:=some (rx es k)) ⟨e1,rfl,rfl,e2⟩ K.get (K.own hx hv) (JM qv) (post_of r (iO _ _) (qv.grow (iO _ _)) h)
noncomputable def xn (e:gc):Prop:=∀nm env whole,VX e nm env whole=whole
omit HB in
theorem Dz {x:j7} {p q:EB} (h:x≠G'):xn (.Call (.Name x p) [] [] q):=λnm env whole=>by
 have h2:(x !=("super":j7))=true:=by
  rw [bne_iff_ne];intro q;exact h (q.trans (by unfold G';exact (by decide+kernel:("super":j7)=(⟨⟨[115,117,112,101,114]⟩⟩:j7))))
 unfold VX
 dsimp only
 rw [h2];rfl
theorem L4 {n:Nat} {ns:gm} {e:gc} {a:CE} {x:Nat} {nm:j7} {pos:EB} (hb:xn e) (hx:AT[x]? =some nm) (he:SE B n ns e a):SE B n ns (.Attribute e nm pos) (.attr a x):=λA env m st s Q hr F r h=>by
 refine Attribute_any_ (fZ (he A env m st s _ hr F r h) (λv s₁ y st₁ qv r₁ y₁ h₁=>?_)) (by rw [arm_eval_Attribute,hb])
 induction h₁ with
 |mk e1 hu h₁=>
  obtain rfl:=gM qv
  exact el (E5 HB r₁ e1 hx hu h₁) (λ_ _ p=>p.trans y₁) λ_ _ e=>e
end
end
end
variable {bo:GB} {bp:Yv} {bG:Result->eL->Prop} {cU:gX}
set_option tactic.hygienic true in
theorem JN (X:aX.In m.heap) (I:InstAt m.heap aV cf z (some (rx bE a))) (o:cf.dict=some cU) (l:SH aX z=true) (f:Wn aX z ao=some none) (k:(clsIn aX z).any (·.hasDict)=true) (e:(QW ao bE).isSome=true) (t:(Wq ao (pA bp.params ao) (.str ao m.toks) J bE).length<=1000) (h:∀d,iE cU m.heap d->d.get? cU=some (rx (Wq ao (pA bp.params ao) (.str ao m.toks) J bE) (putN ao bE a))->bG (.ok (.ret .none)) {m with heap:=d,toks:=m.toks+1}):
 sr (hJ bo bp) L (.call (.builtin "object.__setattr__") ⟨[.ref aV,.str ao bF,J],[]⟩) bG m:=by
 refine osa_open X I l f λb=>?_
 obtain ⟨x,s,p⟩:=any_some k
 obtain ⟨q,j,r,D⟩:=I
 clear l f k r;obtain ⟨v,y,A,w⟩:=cf
 dsimp only at j o
 subst j o
 dsimp only at D
 have g:(m.heap.update cU (Obj.putName ao (pA bp.params ao) (.str ao m.toks) J)).get? cU=some (rx (Wq ao (pA bp.params ao) (.str ao m.toks) J bE) (putN ao bE a)):=by
  rw [<-Wo]
  exact nD _ D (by rw [Wo];rfl)
 refine b5 (dj (b5 (b5 (UW q (b5 ((looks_clsIn X s).here ?_))))))
 rw [p]
 refine dj (a:=some cU) (b5 (dj (b5 ?_)))
 unfold nsSet
 refine b5 (b5 (Sw (dj (b5 (wpAny_mkText (b5 (UW D ?_)))))))
 have c:(!bE.toArray.any (·.key.isStr ao)&&bE.toArray.any (·.refKey))=false:=by
  rw [<-Lf,<-Lf]
  unfold QW at e
  dsimp only
  split at e
  .rename_i u i
   rw [qb.mpr (ei u (sm i) (BC i))];rfl
  .split at e
   .contradiction
   .rename_i n;rw [l_] at n;rw [n,Ql]
 dsimp only
 rw [aRefKeyMayBeTheName_at,c]
 refine wpAny_updatePart D ?_
 refine b5 (wpAny_lookBehind g (pastItsLine_dict (by rw [j4,nC];exact a_ t (by decide))) ?_)
 exact dj (h _ (gJ ..) g)
variable {bq:Unit->eL->Prop}
theorem uD (j:gU c) (r:R c b m) (e:b a=some (.inst d o aS)) (f:AT[I]? =some ao) (y:RV c m.heap J l) (h:∀v,R c (b.set a (.inst d o (iy aS I l))) v->St c b m (b.set a (.inst d o (iy aS I l))) v->bq () v):
 WE c L (setAttr (.ref a) ao J) bq m:=by
 refine gp (Dy (r.objs a _ e)) λn k D x q E z=>?_
 refine eS (j.cls d z) λC _ K=>?_
 have u:InstAt m.heap a (ud (c.ca d) o) (c.ca d) (some (rx n k)):=⟨D,rfl,rfl,x⟩
 have g:(QW ao n).isSome=true:=by
  induction g:aS.lookup I with
  |some l=>refine eS (E3 q f g) λw F _=>?_;rw [F];rfl
  |none=>rw [Ct q f g];rfl
 have B:(Wq ao (pA c.w.params ao) (.str ao (m.toks+1)) J n).length<=1000:=by
  have:=L3 (E4 (p:=pA c.w.params ao) (bF:=m.toks+1) q f y) (uC E)
  exact n1 this.1 (a_ this.2 (by decide))
 refine set_plain (j.Hh r) u K.set (JN (m:={m with toks:=m.toks+1}) (j.Hh (r.grow (iO m (m.toks+1)))) u rfl K.plain (K.Tr I ao f) K.dict g B λO p N=>?_)
 have A:=r.nN (.inr (.inl (qB a d aS e))) p
 have G:a≠o:=λq=>by clear j x K u g B;subst q;rw [(r.Cq a d a aS e).1] at e;contradiction
 refine iK (r.upd (t:=m.toks+1+1) e p (.inr ⟨d,aS,(iy aS I l),rfl,rfl⟩) (.inst ((p.2 a G).trans D) N (E4 (q.mono A) f (y.mono A)) (uC E) z)) λM H=>?_
 exact h _ M H
theorem JO {k:eH->Ox eH} (a:∀d,f_ (hJ c.prog c.w) L (operate d (yS J aT)) (λr m=>f_ (hJ c.prog c.w) L (k r) aG cC m) cC m) (b:gc):f_ (hJ c.prog c.w) L (subscripted b false J aT>>= k) aG cC m:=by
 induction b using ue with
 |Slice l u m p=>induction m using d7 with |_=>exact b5 (a _)
 |_=>exact b5 (a _)
theorem r_ (h:f_ (hJ c.prog c.w) L (vV a0 ab) (λo k=>f_ (hJ c.prog c.w) L (vV aH ab) (λi a=>(∃T d,sV (.type T) "__getitem__"=pure (some (.builtin d))/\a.TypeIs o T)/\f_ (hJ c.prog c.w) L (yS o i) cC aG a) aG k) aG m):
 f_ (hJ c.prog c.w) L (vV (.Subscript a0 aH aa) ab) cC aG m:=by
 rw [eval_Subscript]
 refine b5 (el h (λo k g=>b5 (f5 (el g (λi a f=>b5 (mL ?_)) λ_ _ x=>x)))
  λ_ _ x=>x)
 clear h g;refine iK f λs e=>?_;refine i5 s λT d n b=>?_
 refine b5 ?_
 rw [getitemInPython_of_ne b.not_modules]
 refine b5 (rS b n ?_)
 have p:∀j,f_ (hJ c.prog c.w) L (operate j (yS o i)) (λr l=>f_ (hJ c.prog c.w) L (letTemporaryGo a0 o r>>= λ_=>pure r) cC aG l) aG a:=λj=>
  wpAny_operating (el e (λr l q=>b5 (wpAny_letTemporaryGo (dj q))) λ_ _ x=>x)
 refine dj ?_
 clear e f n b
 exact JO p aH
theorem yk (r:R c b m) (f:RV c m.heap J (.ref a)) (e:b a=some (.list j)):∃T d,sV (.type T) "__getitem__"=pure (some (.builtin d))/\m.TypeIs J T:=by
 obtain rfl:=gM f
 refine gp (r.isList e) λi k g q l h n=>?_
 exact nA _ _ R'.lookup h.typeIs
theorem E6 (d:RV c m.heap J (.tup j)):∃T b,sV (.type T) "__getitem__"=pure (some (.builtin b))/\m.TypeIs J T:=by
 refine g0 J (iB d) λa f k e l q=>?_;exact ⟨_,_,Aa.lookup,_,e,rfl⟩
theorem JP (r:R c b m) (a:RV c m.heap J l) (h:zD b n l af):∃T f,sV (.type T) "__getitem__"=pure (some (.builtin f))/\m.TypeIs J T:=by
 induction h with
 |tup=>exact E6 a
 |list e=>exact yk r a e
 |dict e=>
  obtain rfl:=gM a
  refine wX (r.oP e).1.obj λo i j d g _=>?_
  exact ⟨_,_,slot_dict_getitem.lookup,o,d,g.1⟩
theorem JQ (r:R c b m) (d:RV c m.heap J l) (h:G7 b n l af b7):∃T i,sV (.type T) "__getitem__"=pure (some (.builtin i))/\m.TypeIs J T:=by
 induction h with
 |tup=>exact E6 d
 |list e=>exact yk r d e
 |BM=>
  refine Lm J (LA d) λa g f=>mV f λp b7 q=>?_;refine eS p λo j k=>?_
  have e:m.heap.IsList a g:=ei o (r.old _ _ j) k
  exact nA _ _ R'.lookup e.typeIs
theorem JR (r:R c b m) (d:RV c m.heap J l) (h:OL b n l):∃T a,sV (.type T) "__getitem__"=pure (some (.builtin a))/\m.TypeIs J T:=by
 induction h with
 |mk e=>exact yk r d e
theorem IJ (t:SE c a v a0 g) (u:SE c a v aH D):SE c a v (.Subscript a0 aH aa) (.sub g D):=λA f m o s Q b F r h=>
 r_ (fZ (t A f m o s _ b F r h) (λE z x B i d j n=>fZ (u A f m B z _ b (F.step r j) d n) (λw C y G q k e l=>⟨JP k (i.step d e) l,el (LS b k (i.step d e) q l) (λ_ _ p=>(p.trans e).trans j) λ_ _ a0=>a0⟩)))
noncomputable def SO (B:Base) (n:Nat) (ns:gm) (o:Option gc) (c:CE):Prop:=∀(A:jc) (env:zw) (m:MM) (st:AS) (s:eL) (Q:AV->AS->Prop),
 mO n A->FR B env ns m st s->R B st s->VE PG (eE PG n) c m st Q->WE B A (evalPart o env) (k4 B st s Q) s
theorem E7:SO c a v none (.cst .none):=λA b m d s Q e F r h=>dj (post_of r (g_ _) .none h)
theorem E9 (h:SE c a v a0 g):SO c a v (some a0) g:=λA b m d s Q e F r f=>h A b m d s Q e F r f
variable {b9:EB}
theorem O0 {l u:Option gc} (J:SE c a v a0 g) (N:SO c a v l D) (G:SO c a v u aL):SE c a v (.Subscript a0 (.Slice l u none aa) b9) (.tZ g D aL):=λA d m C s Q f F r h=>
 r_ (fZ (J A d m C s _ f F r h) (λS O x P t o j B=>Ou (fZ (N A d m P O _ f (F.step r j) o B) (λw E y M I k i L=>fZ (G A d m M E _ f (F.step r (j.trans i)) k L) (λu H z R K q e n=>by
  rw [Jq]
  refine dj ?_
  have b:=jw H {cls:=.type "slice",data:=.fields #[w,u,.none]}
  have p:=((t.step o i).step k e).grow b
  exact ⟨JQ (q.grow b) p n,el (LQ (q.grow b) p (tH ..) ((I.step k e).grow b) (K.grow b) n) (λ_ _ aa=>(((aa.trans (Ex b)).trans e).trans i).trans j) λ_ _ a0=>a0⟩)))))
variable {cG cV:EB}
theorem O1 (o:SE c a v a0 g):SE c a v (.Subscript a0 (.Slice none none (some (.UnaryOp .USub (.Constant (.int 1) d aa) b9)) cG) cV) (.rev g):=λA k m l s Q n F r h=>
 r_ (fZ (o A k m l s _ n F r h) (λq e x t f j p i=>Ou (by
  rw [Jq]
  refine dj (dj ?_)
  rw [evalPart_some]
  refine Jp (QR (BA ?_))
  have b:=(iO e (e.toks+1+1)).trans (jw {e with toks:=e.toks+1+1} {cls:=.type "slice",data:=.fields #[.none,.none,.int (-1) (e.toks+1)]})
  exact ⟨JR (j.grow b) (f.grow b) i,el (LR (j.grow b) (f.grow b) (tH ..) i) (λ_ _ aa=>(aa.trans (Ex b)).trans p) λ_ _ a0=>a0⟩)))
theorem uE:∀{c:List gc},An c=true->∀(a:zw) (b:EB),(sX b (ng c a)).any (·.1)=false:=by
 intro f
 induction f with
 |nil=>
  intro _ _ _
  exact rfl
 |cons e r d=>
  intro h a b
  have h:=(eV _ _).mp h
  rw [vi h.1]
  show (false||(sX b (ng r a)).any (·.1))=false
  rw [d h.2];rfl
theorem yl {M:Model} {Q:Args->eL->Prop} (c:An az=true) (h:f_ M L (R9 (sX aa (ng az ab))) (λa b=>Q ⟨a,[]⟩ b) aG m):f_ M L (evalArgs J true (sX aa (ng az ab)) []) Q aG m:=by
 induction az using ej with
 |nil=>
  unfold evalArgs
  show f_ M L (R9 []>>= _) Q aG m
  have h:f_ M L (R9 []) (λa b=>Q ⟨a,[]⟩ b) aG m:=h
  refine b5 (el h (λa b d=>?_) λ_ _ x=>x)
  refine b5 (dj ?_)
  refine f5 ?_
  refine b5 (dj (b5 (dj (dj ?_))))
  exact d
 |cons e r=>
  have c:=(eV _ _).mp c
  rw [vi c.1] at h⊢
  exact evalArgs_plain h
theorem E_ (d:gU c) (e:eE PG a l j b n) (q:RV c H J l) {M:Model} (X:c.K.In b8):
 ∃k,(k=Ep\/k=Bx\/k=xU)/\Looks M b8 (U0 J) k:=by
 induction a using ji with
 |zero=>exact e.elim
 |succ a=>
  induction l using AV.casesOn with
  |fn k=>
   obtain rfl:=Qs q
   have:k<82:=by
    refine Q7 e λ_ F m f _=>?_
    rw [<-d.Tw];exact (ew.mp f).1
   exact keeps_K (d.IA k this) b8 X
  |cls g=>
   obtain rfl:=Lz q
   have:g<10:=by
    refine eS e λF f _=>?_
    rw [<-d.LI];exact (ew.mp f).1
   exact keeps_K (d.IB g this) b8 X
  |bi h=>
   clear d X e;obtain rfl:=Qt q
   refine ei .machine (.inr (.inl rfl)) ?_
   clear q;rcases h with _ |_ |_ |_ |_ |_ |_ |_ |_ |_ |h<;>exact nx rfl
  |_=>exact e.elim
theorem sC (j:An az=true) (n:LJ c a v az ar) (p:mO a L) (F:FR c ab v e b m) (r:R c b m) (h:Io PG (eE PG a) ar e b bL) (s:∀i f g d,hU c d.heap g i->R c f d->St c b m f d->bL i f->(∃k,(k=Ep\/k=Bx\/k=xU)/\Looks (hJ c.prog c.w) d.heap (U0 J) k)/\WE c L (nB J (aj++g) []) aG d):
 WE c L (BH aa J aj (sX aa (ng az ab)) []) aG m:=
 Yx (P:=λh=>∃k,(k=Ep\/k=Bx\/k=xU)/\Looks (hJ c.prog c.w) h (U0 J) k) (by rw [uE j];rfl) (λ_ h=>h)
  (yl j (xg (n L ab e b m bL aa p F r h) (λg d i f o u t q=>iK q λ_ l=>s i f g d o u t l)))
theorem Fb (f:gU c) (y:qn c a) (G:∀o K p,a0≠.Attribute o K p) (l:An az=true) (t:SE c a v a0 g) (k:LJ c a v az ar):SE c a v (.Call a0 az [] aa) (.call g ar):=λA b m B s Q d F r h=>by
 have E:vV (.Call a0 az [] aa) b=(do BH aa (<-vV a0 b) [] (sX aa (ng az b)) (U2 aa (Ov [] b))):=by
  clear f y l t k d F r h;rcases a0 with ⟨⟩<;>first |rfl |exact absurd rfl (G _ _ _)
 rw [E]
 refine b5 (fZ (t A b m B s _ d F r h) (λI M x N j n q z=>?_))
 exact sC l k d (F.step r q) n z λL D H J C w u i=>⟨E_ f i j (f.Hh w),el (y x L D Q A I H J i d w (j.step n u) C) (λ_ _ p=>(p.trans u).trans q) λ_ _ e=>e⟩
theorem Hi (s:xn a0) (k:aa.endLine=b9.line) (j:An az=true) (g:az.length<20) (h:f_ (hJ c.prog c.w) L (vV a0 ab) (λf d=>∀l,f_ (hJ c.prog c.w) L (SD f ao l) (λa b=>f_ (hJ c.prog c.w) L (BH b9 a.1 a.2 (sX b9 (ng az ab)) []) cC aG b) aG d) aG m):
 f_ (hJ c.prog c.w) L (vV (.Call (.Attribute a0 ao aa) az [] b9) ab) cC aG m:=by
 rw [arm_eval_Call,s]
 refine b5 (el h (λf d i=>b5 (mL ?_)) λ_ _ e=>e)
 have p:UZ (az.length+([]:List Ws).length) (sX b9 (ng az ab)) (U2 b9 (Ov [] ab))=true:=by
  unfold UZ
  have q:=uE j ab b9
  have o:(sX b9 (ng az ab)).all (!·.1)=true:=by
   rw [EF];simp only [Bool.not_not];rw [q];rfl
  rw [o]
  show (true&&true&&decide (az.length+0+0<30))=true
  simp only [Bool.true_and,decide_eq_true_eq];exact gF g (by decide)
 have n:VV true a0 ab aa b9=pure b9:=by unfold VV;simp [k]
 unfold methodCall
 rw [p]
 refine b5 (f5 (el (i _) (λa b r=>?_) λ_ _ e=>e))
 exact b5 (Yp n r)
noncomputable def Qu (B:Base) (n:Nat):Prop:=∀(ns:gm) (A:jc) (env:zw) (m:MM) (st:AS) (s:eL) (Q:AV->AS->Prop) (es:List gc) (cs:w0) (pos:EB) (a:gX) (xs:List AV) (x:Nat) (nm:j7) (pl:Ox Bool),AT[x]? =some nm->st a=some (.list xs)->x=0\/x=3->
 An es=true->LJ B n ns es cs->mO n A->FR B env ns m st s->R B st s->Io PG (eE PG n) cs m st (λvs st=>∃xs,st a=some (.list xs)/\y6 a xs st Q x vs)->
 WE B A (SD (.ref a) nm pl) (λfx s₂=>WE B A (BH pos fx.1 fx.2 (sX pos (ng es env)) []) (k4 B st s Q) s₂) s
noncomputable def Qv (B:Base) (n:Nat):Prop:=∀(ns:gm) (A:jc) (env:zw) (m:MM) (st:AS) (s:eL) (Q:AV->AS->Prop) (es:List gc) (cs:w0) (pos:EB) (a:gX) (kvs:List (AV×AV)) (x:Nat) (nm:j7) (pl:Ox Bool),AT[x]? =some nm->st a=some (.dict kvs)->x=1\/x=2->
 An es=true->LJ B n ns es cs->mO n A->FR B env ns m st s->R B st s->Io PG (eE PG n) cs m st (λvs st=>∃kvs,st a=some (.dict kvs)/\y7 a kvs st Q x vs)->
 WE B A (SD (.ref a) nm pl) (λfx s₂=>WE B A (BH pos fx.1 fx.2 (sX pos (ng es env)) []) (k4 B st s Q) s₂) s
theorem JS (w:gU c) (HC:qn c a) (HL:Qu c a) (HM:Qv c a) (kq:xn a0) (hl:aa.endLine=b9.line) (t:AT[d]? =some ao) (U:az.length<20) (u:An az=true) (ho:SE c a v a0 g) (x:LJ c a v az ar):SE c a v (.Call (.Attribute a0 ao aa) az [] b9) (.fL g d ar):=λA B m V s Q n F r h=>by
 refine Hi kq hl u U (el (ho A B m V s _ n F r h) (λov M ⟨y,N,D,l,j,i⟩ I=>?_) λ_ _ e=>e)
 induction i using yd.casesOn with
 | @inst b S dx f fs C o kl hC hf i=>
  obtain rfl:=gM D
  refine gp (Dy (l.objs b _ o)) λO k Z g2 q nd km=>?_
  refine eS (w.cls S km) λC' P K=>?_
  rw [hC] at P;obtain rfl:=d3 P
  refine mV (K.Tt d ao f t hf) λT m2 _=>?_
  refine method_fn (w.Hh l) (od:=some (rx O k)) ⟨Z,rfl,rfl,g2⟩ K.get K.G9 T (beq_iff_eq.mp m2) (by show (YH ao (rx O k)).map _=_;rw [lookIn_dict,Ct q t kl];rfl) ?_
  exact sC u x n (F.step r j) l i λz Y vs J X L y' H=>⟨E_ w H (.fn f:RV c J.heap _ _) (w.Hh L),
   el (HC (.fn f) (.ref b::z) Y Q A (.ref (c.fa f)) (.ref b::vs) J H n L (.fn f) (.cons (.ref b) X)) (λ_ _ p=>(p.trans y').trans j) λ_ _ e=>e⟩
 | @list b z o E i=>
  obtain rfl:=gM D
  exact el (HL v A B m N M Q az ar b9 b z d ao I t o E u x n (F.step r j) l i) (λR kn G=>el G (λ_ _ p=>p.trans j) λ_ _ e=>e) λ_ _ e=>e
 | @dict b ku o E i=>
  obtain rfl:=gM D
  exact el (HM v A B m N M Q az ar b9 b ku d ao I t o E u x n (F.step r j) l i) (λR kn G=>el G (λ_ _ p=>p.trans j) λ_ _ e=>e) λ_ _ e=>e
theorem hU.dropLast (r:hU c H aj j):hU c H aj.dropLast j.dropLast:=by
 rw [G1,G1,r.length];exact r.take _
theorem hU.getLast (r:hU c H aj j) (e:j.getLast? =some l):∃v,aj[aj.length -1]? =some v/\RV c H v l:=by
 rw [List.getLast?_eq_getElem?] at e
 rw [r.length];exact r.get e
theorem hU.one (r:hU c H aj [l]):∃v,aj=[v]/\RV c H v l:=by
 cases r with |cons a r=>cases r;exact ei _ rfl a
theorem hU.two (r:hU c H aj [l,af]):∃v w,aj=[v,w]/\RV c H v l/\RV c H w af:=by
 cases r with | @cons _ _ b _ a r=>refine jj b r.one λw q=>?_;exact nr _ _ rfl a q
theorem hU.three (r:hU c H aj [l,af,b7]):∃v w u,aj=[v,w,u]/\RV c H v l/\RV c H w af/\RV c H u b7:=by
 cases r with |cons a r=>refine jS r.two λw u d q b=>?_;clear r;subst d;exact sx _ _ _ rfl a q b
theorem hU.zero (r:hU c H aj []):aj=[]:=by cases r;rfl
theorem R.zU (r:R c b m) {ys:List AV} {t:Nat} {f:Array eH->Array eH} (e:b z=some (.list j)) (g:m.heap.get? z=some (listOf bf a)) (q:hU c m.heap (f bf).toList ys) (l:ys.length<=fE):
 R c (b.set z (.list ys)) {m with heap:=m.heap.update z (fJ f),toks:=t}/\St c b m (b.set z (.list ys)) {m with heap:=m.heap.update z (fJ f),toks:=t}:=by
 have i:iE z m.heap (m.heap.update z (fJ f)):=gJ ..
 obtain ⟨d,h⟩:∃d,(listOf bf a).mapSeq f=listOf (f bf) d:=⟨_,rfl⟩
 have k:(m.heap.update z (fJ f)).get? z=some (listOf (f bf) d):=by
  rw [<-h];exact nD _ g (by rw [h];rfl)
 exact r.upd e i (.inl ⟨rfl,(by (repeat intro _);contradiction),(by (repeat intro _);contradiction)⟩) (.list k (q.mono (r.nN (.inl (by rw [e];simp)) i)) l)
theorem Vv:AT[0]? =some (iV "append"):=by decide+kernel
theorem Vw:AT[1]? =some (iV "get"):=by decide+kernel
theorem Vx:AT[2]? =some (iV "setdefault"):=by decide+kernel
theorem Vy:AT[3]? =some (iV "pop"):=by decide+kernel
theorem Ra (h:y6 a j b n 0 aN):∃v,aN=[v]/\j.length<fE/\n .none (b.set a (.list (j++[v]))):=by
 cases h with
 |app c q=>exact gq _ rfl c q
theorem Rb (h:y6 a j b n 3 aN):aN=[]/\∃v,j.getLast? =some v/\n v (b.set a (.list j.dropLast)):=by
 cases h with
 |pop c q=>exact tP rfl _ c q
theorem Rc (h:y7 a aC b n 1 j):∃i,IntKeys aC/\((j=[.int i]/\((∃v,(AV.int i,v)∈aC/\n v b)\/(AV.int i∉aC.map (·.1)/\n .none b)))\/∃d,j=[.int i,d]/\((∃v,(AV.int i,v)∈aC/\n v b)\/(AV.int i∉aC.map (·.1)/\n d b))):=by
 cases h with
 |Vq c q=>exact ei _ c (.inl ⟨rfl,q⟩)
 |G9 c q=>exact ei _ c (.inr ⟨_,rfl,q⟩)
theorem Rd (h:y7 a aC b n 2 j):∃i d,j=[.int i,d]/\IntKeys aC/\((∃v,(AV.int i,v)∈aC/\n v b)\/(AV.int i∉aC.map (·.1)/\aC.length<fE/\n d (b.set a (.dict (aC++[(.int i,d)]))))):=by
 cases h with
 |Tg c q=>exact nr _ _ rfl c q
theorem Tx:Qu c a:=λns A kl m st s Q es cs kn S xs x nm pl i e Z K H I F r h=>by
 refine gp (r.isList e) λkm k g q l il hz=>?_
 rcases Z with rfl |rfl
 .rw [Vv] at i;(injection i with i;subst i)
  refine uc (T:="list") (ei _ g rfl) B6 rU YK (λb o=>by (injection o with o;subst o);exact (ei _ g rfl)) ?_
  refine sC K H I F r h λws Y W O B p D d=>⟨(ei .machine (.inr (.inl rfl)) (nx rfl)),?_⟩
  refine eS d λM u d=>?_
  refine gp (p.isList u) λj G n y z R E=>?_
  obtain ⟨v,rfl,P,d⟩:=Ra d
  .refine jj W B.one λw X=>?_
   refine vW rU (ei _ n rfl) By (SF _ _) (vZ S j G w (a_ (by exact n1 E (eA P)) hX)) ⟨n,?_⟩
   obtain ⟨N,C⟩:=p.zU (t:=O.toks) (f:=λx=>x.push w) u n (ys:=M++[v]) (by rw [so];exact y.append (.cons X .nil)) (by rw [bh];exact P)
   exact Ca D ⟨.none,_,.none,N,C,d⟩
 .rw [Vy] at i;(injection i with i;subst i)
  refine uc (T:="list") (ei _ g rfl) B6 Es YJ (λb o=>by (injection o with o;subst o);exact (ei _ g rfl)) ?_
  refine sC K H I F r h λws Y W O B p D d=>⟨(ei .machine (.inr (.inl rfl)) (nx rfl)),?_⟩
  refine eS d λM u d=>?_
  refine gp (p.isList u) λj G n y z R E=>?_
  obtain ⟨rfl,v,U,d⟩:=Rb d
  .cases B.zero
   .refine eS (y.getLast U) λw J V=>?_
    rw [eB,gE] at J
    refine vW Es (ei _ n rfl) YO (YR _) (PySem.MeetsSeq.list_pop_last S j G w J (a_ (by exact n1 E z) hX)) ⟨n,?_⟩
    obtain ⟨N,C⟩:=p.zU (t:=O.toks) (f:=λx=>x.eraseIdxIfInBounds (j.size -1)) u n (ys:=M.dropLast) (by
     have:(j.eraseIdxIfInBounds (j.size -1)).toList=j.toList.dropLast:=by
      clear e K H I F r g q l il hz h p D u n y z R E U d B J V;obtain ⟨L⟩:=j
      simp [List.eraseIdx_eq_dropLast]
     rw [this];exact y.dropLast) (by rw [List.length_dropLast];exact a_ (jQ _ _) z)
    exact Ca D ⟨v,_,V.step p C,N,C,d⟩
theorem tl (e:aC.map (·.1)=cE.map (λc=>.int c.1)) (b:AV.int p∉aC.map (·.1)):jm cE p=none:=by
 induction a:jm cE p with
 |none=>rfl
 |some v=>exact absurd ((nZ e).mp (by rw [a];rfl)) b
theorem vD (e:KeyKind bo bp Int) (d:gX) (l:e.is p J=true) (q:(d==z9)=false) (b:eH):
 MeetsIn bo bp (vY.«dict.setdefault» ⟨[.ref d,J,b],[]⟩) (λ_ R s=>∃a,s.heap.DictAt e d a a.length/\a.length<=x7/\
  (∀v,jm a p=some v->R (.ok (.ret v)) {s with toks:=s.toks+1})/\
  (jm a p=none->∀c,c.DictAt e d (a++[(p,b)]) (a.length+1)->iE d s.heap c->R (.ok (.ret b)) {s with heap:=c,toks:=s.toks+1})):=
 .of_wp λA R s k=>r5 k λa f n h g=>by
  unfold vY.«dict.setdefault»
  refine b5 ?_
  unfold Uu
  refine b5 (wL f.dictOf.typeIs ?_)
  show f_ _ _ (pure (d,J,some b)) _ _ s
  refine dj ?_
  show f_ _ _ (if (d==z9)=true then _ else (GR d J b>>= _)) _ _ s
  rw [if_neg (by rw [q];exact gL)]
  exact b5 (BP l f (λv o=>dj (ei v rfl (h v o))) (λj c m i=>dj (ei b rfl (g j c m i))) n)
theorem Tz (W:gU c):Qv c a:=λns A kF m st s Q es cs kD kn kJ x nm pl p e kC O N U F r h=>by
 refine iK (r.oP e) λd l=>?_
 refine wX d.obj λkI kG ep J I _=>?_
 rcases kC with rfl |rfl
 .rw [Vw] at p;(injection p with p;subst p)
  refine uc (T:="dict") (ei _ J I.1) B7 tV YM (λb B=>by (injection B with B;subst B);exact (ei _ J I.2.1)) ?_
  refine sC O N U F r h λws ky P s' H f E j=>⟨(ei .machine (.inr (.inl rfl)) (nx rfl)),?_⟩
  refine eS j λkm y j=>?_
  refine iK (f.oP y) λn X=>?_
  have R:=f.uB W y
  refine eS (Rc j) λi S kB=>?_
  rcases kB with ⟨rfl,Z⟩ |⟨dd,rfl,Z⟩
  .refine jj P H.one λw L=>?_
   refine rY w (gn L) λt=>?_
   refine gi (n.GL S) λkl z q k=>?_
   refine K1 tV z.dictOf.typeIs C7 (YU _ _) (meets_dict_get (t8 c) kn (pH _ _ i t) R) (ei _ z.dictOf.mapOf ?_)
   rcases Z with ⟨v,D,g⟩ |⟨G,g⟩
   .refine eS (oW q k n.nodup D) λu C K=>?_
    rw [C]
    exact Ca E (post_of f (iO _ _) K g)
   .rw [tl k G]
    exact Ca E (post_of f (iO _ _) .none g)
  .refine v9 P H.two λw w2 L V=>?_
   clear W e O N U r d l J I h y X j H;refine rY w (gn L) λt=>?_
   refine gi (n.GL S) λkl z q k=>?_
   refine K1 tV z.dictOf.typeIs C7 (YT _ _ _) (meets_dict_get_default (t8 c) kn (pH _ _ i t) R w2) (ei _ z.dictOf.mapOf ?_)
   rcases Z with ⟨v,D,g⟩ |⟨G,g⟩
   .refine eS (oW q k n.nodup D) λu C K=>?_
    rw [C]
    exact Ca E (post_of f (iO _ _) K g)
   .rw [tl k G]
    exact Ca E (post_of f (iO _ _) V g)
 .rw [Vx] at p;(injection p with p;subst p)
  refine uc (T:="dict") (ei _ J I.1) B7 zv YL (λb B=>by (injection B with B;subst B);exact (ei _ J I.2.1)) ?_
  refine sC O N U F r h λws ky P s' H f E j=>⟨(ei .machine (.inr (.inl rfl)) (nx rfl)),?_⟩
  refine eS j λkm y j=>?_
  refine iK (f.oP y) λn X=>?_
  have R:=f.uB W y
  obtain ⟨i,dd,rfl,S,j⟩:=Rd j
  .refine v9 P H.two λw w2 L V=>?_
   clear W e O N U r d l J I h H;refine rY w (gn L) λt=>?_
   refine gi (n.GL S) λkl z q k=>?_
   have kz:kl.length=km.length:=by have:=congrArg fi k;simpa using this.symm
   refine K1 zv z.dictOf.typeIs YP (YS _ _ _) (vD (t8 c) kn (pH _ _ i t) R w2) (qV _ z (a_ (by exact n1 kz X) hX) (λv M=>?_) (λM kH kx kq=>?_))
   .rcases j with ⟨v',D,g⟩ |⟨G,_⟩
    .refine eS (oW q k n.nodup D) λu C K=>?_
     rw [C] at M;obtain rfl:=d3 M
     exact Ca E (post_of f (iO _ _) K g)
    .rw [tl k G] at M;contradiction
   .rcases j with ⟨v',D,g⟩ |⟨G,ku,g⟩
    .refine eS (oW q k n.nodup D) λu C K=>?_
     rw [C] at M;contradiction
    .have Y:=f.nN (.inl (by rw [y];simp)) kq
     refine Ca E (LZ (cF:=.dict (km++[(.int i,_)])) f y kq (.inl (iz rfl (by (repeat intro _);contradiction) (by (repeat intro _);contradiction))) (.dict (.int (by rw [bh];exact kx) ?_ ?_) ?_) (V.mono Y) g)
     .rw [b_,b_];exact (q.mono Y).append (.cons (V.mono Y) .nil)
     .rw [b_,b_,k];rfl
     .rw [bh];exact ku
noncomputable def zF (B:Base) (k:Nat):Prop:=∀(A:jc) (args:List AV) (st:AS) (Q:AV->AS->Prop) (vs:List eH) (s:eL),Il k args st Q->mO 1 A->R B st s->hU B s.heap vs args->WE B A (nB (Ap k) vs []) (k4 B st s Q) s
theorem qH {Q:AV->Prop} (h:One Q j):∃v,j=[v]/\Q v:=by induction h with |mk q=>exact ei _ rfl q
theorem O2 {Q:AV->AV->Prop} (h:Vp Q j):∃v w,j=[v,w]/\Q v w:=by induction h with |mk q=>exact nA _ _ rfl q
theorem zV {Q:Int->Prop} (h:G8 Q l):∃i,l= .int i/\Q i:=by induction h with |mk q=>exact ei _ rfl q
variable {cW:List AV->Prop}
theorem O3 (h:OM b cW l):∃c,cW c/\(l= .tup c\/∃a,l= .ref a/\b a=some (.list c)):=by
 induction h with
 |tup q=>exact ei _ q (.inl rfl)
 |list e q=>exact ei _ q (.inr ⟨_,rfl,e⟩)
theorem xo (h:Cj b cW l):∃a c,l= .ref a/\b a=some (.list c)/\cW c:=by induction h with |mk e q=>exact nr _ _ rfl e q
theorem Rf (x:gU c):zF c 0:=λA F E Q u s h o r i=>by
 replace h:=qH h
 obtain ⟨v,rfl,h⟩:=h
 refine jj u i.one λw f=>?_
 clear o i;induction h with
 | @tup m h=>
  refine g0 w (iB f) λa p k e l q=>?_
  have b:p.size=m.length:=by rw [<-q.length,eB]
  refine P.len_tuple e (by unfold fE at l;exact WT l) ?_
  rw [b]
  exact post_of r (iO _ _) (.int _ _) (h (by exact n1 b.symm l))
 | @list a m e h=>
  obtain rfl:=gM f
  refine gp (r.isList e) λD k g q l z b=>?_
  refine call_len_list z (by unfold fE at l;exact JB (n1 b l)) ?_
  rw [b]
  exact post_of r (iO _ _) (.int _ _) (h l)
 | @dict a y e n h=>
  obtain rfl:=gM f
  refine iK (r.oP e) λd l=>?_
  refine gi (d.GL n) λB C q t=>?_
  have j:B.length=y.length:=by have:=congrArg fi t;simpa using this.symm
  refine call_len_dict (r.uB x e) C.dictOf (by unfold fE at l;exact JB (n1 j l)) ?_
  rw [j]
  rw [bb] at h
  exact post_of r (iO _ _) (.int _ _) (h l)
theorem L5 (q:hU c H aj j) (d:∀x∈j,∃i,x= .int i):∃b:List Int,j=b.map .int/\GC aj b:=by
 induction aj generalizing j with
 |nil=>cases q;exact ei [] rfl .nil
 |cons v aj e=>
  cases q with
  |cons a q=>
   refine j_ (d _ (.head _)) λi g=>?_;subst g
   refine rY v (gn a) λt=>?_
   obtain ⟨b,rfl,f⟩:=e q λx h=>d x (.tail _ h)
   exact ei (i::b) rfl (.cons i t f)
theorem Rg:zF c 2:=λA kl st Q W s h E r D=>by
 replace h:=qH h;obtain ⟨x0,rfl,h⟩:=h
 replace h:=xo h;obtain ⟨a,xs,rfl,e,h⟩:=h
 refine jj W D.one λw C=>?_
 have:=gM C;subst this
 refine gi h λm u O G=>?_
 refine gp (r.isList e) λY k g q l H M=>?_
 obtain ⟨f,rfl,p⟩:=L5 q λx P=>eS (u x P) λi e _=>⟨i,e⟩
 refine j_ p.allInts.items λb y=>?_
 have d:f=b.toList.map (·.1):=by rw [<-p.numsOf,<-nums_intItems,<-y]
 have z:0<b.size:=by
  have o:0<f.length:=by
   clear E r h D C G g H e u q l M p y d;induction f using ej with
   |nil=>contradiction
   |cons _ _=>exact fz _
  rw [d,bb,eB] at o;exact o
 have J:s.heap.IsList a (intItems b):=by rw [<-y,Array.toArray_toList];exact H
 refine min_intList E.handled J z λv Z tk L K=>?_
 refine rY v (intItems_at L) λt=>?_
 refine iK (argBest_lt (Em b) (b.size -1)) λo V=>?_
 have R:Em b (Wl (λi j=>decide (Em b i<Em b j)) (b.size -1))=m:=by
  apply u_
  .clear E r D C G g H e u q l M p y J K L o;refine eS (ck.mp O) λS X F=>?_
   injection F with F
   clear O;subst F
   refine j_ (eZ.mp X) λj N=>?_
   have U:j<b.size:=by
    have:=(ew.mp N).1
    rw [d,bb] at this;simpa using this
   have:=V j (by exact (λ{m n} h=>(Nat.le_sub_one_iff_lt h).mpr) z U)
   have B:Em b j=S:=by rw [numAt_eq,<-d,d_,N];rfl
   exact le_of_le_of_eq this B
  .have T:Em b (Wl (λi j=>decide (Em b i<Em b j)) (b.size -1))∈f:=by
    rw [numAt_eq,<-d,d_]
    have:Wl (λi j=>decide (Em b i<Em b j)) (b.size -1)<f.length:=by rw [d,bb,eB];exact zz z o
    rw [df this];exact fN _
   refine eS (u _ (ck.mpr ⟨_,T,rfl⟩)) λi I B=>?_
   injection I with I;exact le_of_le_of_eq B (id (rH I))
 rw [R]
 exact post_of r (qA K) (.int _ _) G
theorem Rh:zF c 3:=λA o e Q f s h g r b=>by
 replace h:=O2 h;obtain ⟨m,p,rfl,h⟩:=h
 replace h:=zV h;obtain ⟨i,rfl,h⟩:=h
 replace h:=zV h;obtain ⟨j,rfl,h⟩:=h
 refine v9 f b.two λv w d l=>?_
 clear b;refine rY v (gn d) λt=>?_
 refine rY w (gn l) λu=>?_
 have h:Q (.int (max i j)) e:=h
 refine Flt.max_two_num g.handled (.int i t) (.int j u) λn q k=>?_
 refine post_of r (qA k) ?_ h
 show RV c _ (if decide (i<j)=true then _ else _) _
 by_cases a:i<j
 .simp only [a,decide_true,if_true];rw [qj (zC a)];exact .int _ _
 .simp only [a,decide_false,fW,if_false];rw [Qk (by (first |exact mM a |exact nq.mp a))];exact .int _ _
theorem L6:zF c 4:=λA p x Q d s h e r b=>by
 obtain ⟨f,rfl,h⟩:∃f:List Int,p=f.map .int/\JC _ f:=h
 induction h using JC.casesOn with
 | @one i h=>
  refine jj d b.one λv a=>?_
  clear e b;refine rY v (gn a) λt=>?_
  have g:=(iO s (s.toks+1+1)).trans (jw {s with toks:=s.toks+1+1} {cls:=.type "range",data:=.fields #[.int 0 s.toks,.int i t,.int 1 (s.toks+1)]})
  exact call_range_1 (post_of r g (.pT (eW _ rfl) (by decide) h.2.1) h.2.2)
 | @two i j h=>
  refine v9 d b.two λv w a k=>?_
  clear e b;refine rY v (gn a) λt=>?_
  clear a;refine rY w (gn k) λu=>?_
  have g:=(iO s (s.toks+1)).trans (jw {s with toks:=s.toks+1} {cls:=.type "range",data:=.fields #[.int i t,.int j u,.int 1 s.toks]})
  exact call_range_2 (post_of r g (.pT (eW _ rfl) h.1 h.2.1) h.2.2)
 | @down i j h=>
  refine g0 d b.three λv w z a k q=>?_
  clear e b;refine rY v (gn a) λt=>?_
  refine rY w (gn k) λu=>?_
  refine rY z (gn q) λo=>?_
  refine mV h λn l m=>?_
  have g:=jw s {cls:=.type "range",data:=.fields #[.int i t,.int j u,.int (-1) o]}
  exact call_range_3 (by decide) (post_of r g (.pT (eW _ rfl) n l) m) (.inl (PyProof.noPylong_small (by decide)))
theorem L7:zF c 5:=λA z y Q p s h t r f=>by
 replace h:=qH h;obtain ⟨x,rfl,h⟩:=h
 replace h:=xo h;obtain ⟨a,B,rfl,e,h⟩:=h
 refine jj p f.one λv d=>?_
 have:=gM d;clear t f d;subst this
 refine gp (r.isList e) λo k g q l w j=>?_
 refine call_tuple_list w (λb u=>?_) (a_ (by exact n1 j l) hX)
 have m:fH s {s with heap:=b}:=qA u
 have i:=jw {s with heap:=b} {cls:=.type "tuple",data:=.seq o}
 exact post_of r (m.trans i) (.tup (n:=0) (eW _ rfl) (by exact n1 j l) (q.grow (m.trans i))) h
theorem Ri:zF c 8:=λA j e Q d s h f r a=>by
 replace h:=qH h;obtain ⟨g,rfl,h⟩:=h
 replace h:=zV h;obtain ⟨i,rfl,h⟩:=h
 refine jj d a.one λv b=>?_
 clear f a;refine rY v (gn b) λt=>?_
 have h:Q (.int i.natAbs) e:=h
 refine call_abs_int λu k=>post_of r (iO _ _) ?_ h
 have:(if i<0 then -i else i)=(i.natAbs:Int):=by split<;>(first |exact (Int.natAbs_of_nonneg (nq.mp (by assumption))).symm |exact (C8 (zC (by assumption))).symm)
 rw [this];exact .int _ _
theorem Rj:zF c 9:=λA j e Q d s h f r a=>by
 replace h:=qH h;obtain ⟨g,rfl,h⟩:=h
 replace h:=zV h;obtain ⟨i,rfl,h⟩:=h
 refine jj d a.one λv b=>?_
 clear f a;refine rY v (gn b) λt=>?_
 have h:Q (.int i) e:=h
 exact call_int_int (post_of r (g_ _) (.int _ _) h)
theorem R.L8 {o:AO} (r:R c b m) (g:fH m ae) (t:m.heap.get? z=none) (B:RO c ae.heap z o) (w:∀n v k,o≠.inst n v k):
 b.free z/\R c (b.set z o) ae/\St c b m (b.set z o) ae:=by
 have p:¬ic c b z:=λf=>by refine eS (r.oC f) λj G _=>?_;rw [t] at G;contradiction
 have A:c.h₀.get? z=none:=by
  induction e:c.h₀.get? z using d7 with
  |none=>rfl
  |some j=>rw [r.old z j e] at t;contradiction
 have u:b.free z:=⟨by
  induction e:b z using d7 with
  |none=>rfl
  |some j=>exact absurd (.inl (by rw [e];simp)) p,λd n k e=>p (.inr (.inl (qB d n k e)))⟩
 have x:z≠c.tab:=λe=>p (.inr (.inr e))
 have y:∀d,ic c (b.set z o) d->ic c b d\/d=z:=by
  clear r g t B p A u x;rintro d (h |⟨a,n,k,h⟩ |h)
  .by_cases i:d=z
   .exact .inr i
   .rw [gv i] at h;exact .inl (.inl h)
  .by_cases l:a=z
   .subst l;rw [gW] at h;(injection h with h;subst h);exact absurd rfl (w _ _ _)
   .rw [gv l] at h;exact .inl (.inr (.inl (qB a n k h)))
  .exact .inl (.inr (.inr h))
 refine iz u ⟨λa j e=>?_,λd j e=>g.keep _ _ (r.old d j e),λd i=>?_,λa n v k e=>?_,?_,?_,g.gens.trans r.gens,g.os.trans r.os⟩ ⟨λd j e _=>g.keep d j e,λd i=>?_⟩
 .clear t w p A u x y;by_cases l:a=z
  .clear r g;subst l;rw [gW] at e;(injection e with e;subst e);exact B
  .rw [gv l] at e;exact (r.objs a j e).grow g
 .rcases y d i with h |rfl
  .exact r.new d h
  .exact A
 .have l:a≠z:=λq=>by subst q;rw [gW] at e;(injection e with e;subst e);exact absurd rfl (w _ _ _)
  rw [gv l] at e
  refine mV (r.Cq a n v k e) λE D F=>?_
  have C:v≠z:=λq=>u.2 a n k (q▸e)
  refine iz (by rw [gv C];exact E) D (λd I H s=>?_)
  clear r g t B p A u x y e l E D C;by_cases i:d=z
  .subst i;rw [gW] at s;(injection s with s;subst s);exact absurd rfl (w _ _ _)
  .rw [gv i] at s;exact F d I H s
 .rw [gv (nz x)];exact r.vC
 .exact r.tab.mono (λa o e _=>g.keep a o e) λo e=>g.keep _ o e
 .rcases y d i with h |rfl
  .exact .inl h
  .exact .inr t
theorem uF (r:R c b m) (g:fH m ae) (k:m.heap.get? z=none) (o:RO c ae.heap z ay) (j:∀d e i,ay≠.inst d e i) (h:∀d,b.free d->n (.ref d) (b.set d ay)):k4 c b m n (.ref z) ae:=
 let ⟨f,a,l⟩:=r.L8 g k o j
 ⟨.ref z,_,.ref z,a,l,h z f⟩
theorem O4:zF c 10:=λA z m Q t s h n r f=>by
 replace h:=qH h;obtain ⟨C,rfl,h⟩:=h
 refine eS (O3 h) λw h e=>?_
 refine jj t f.one λv d=>?_
 have i:∀{a:gX} {T:String} {b:Array eH} {k:Nat},(T="list"\/T="tuple")->s.heap.get? a=some (gr T b k)->b.size<=fE->hU c s.heap b.toList w->WE c A (nB (Ap 10) [.ref a] []) (k4 c m s Q) s:=λ{a T b k} x e l q=>by
  refine call_list_seq a x e rfl rfl (λj B o p=>?_) (a_ l hX)
  have g:fH s {s with heap:=j}:=qA o
  exact uF r g (ik _) (.list p (q.grow g) (by rw [<-q.length,eB];exact l)) (by (repeat intro _);contradiction) h
 clear n h f;clear h;rcases e with rfl |⟨a,rfl,e⟩
 .refine g0 v (iB d) λa b k e l q=>?_
  exact i (.inr rfl) e l q
 .have:=gM d;clear d;subst this
  refine gp (r.isList e) λy k g q l D u=>?_
  exact i (.inl rfl) g (by rw [u];exact l) q
theorem Rk:zF c 7:=λE P O Q I s h z r y=>by
 replace h:=qH h;obtain ⟨S,rfl,h⟩:=h
 replace h:=xo h;obtain ⟨a,U,rfl,e,h⟩:=h
 refine jj I y.one λv u=>?_
 have:=gM u;subst this
 refine eS h λf H B=>?_;clear h;subst H
 refine gp (r.isList e) λm k g q l t p=>?_
 have J:∀(d:Nat) (v:eH),m[d]? =some v->∃b,f[d]? =some b/\v= .bool b:=by
  intro d v o
  have j:=(Array.getElem?_eq_some_iff.mp o).1
  have D:d<f.length:=by rw [p,bb] at j;exact j
  obtain ⟨w,n,G⟩:=q.get (i:=d) (x:=.bool f[d]) (by rw [ed,df D];rfl)
  rw [gE,o] at n;clear z r y u e B g q l t p o j;(injection n with n;subst n)
  obtain rfl:=xc G
  exact ei _ (df D) rfl
 have j:a<s.heap.objs.size:=rr g
 refine call_any_walk (BG t ?_)
 refine ⟨s.heap.objs.size,[s.heap.objs.size,a],[s.heap.objs.size],m.size,_,_,(λd=>(f[d]?).getD false),rfl,(Walks.list (A:=E.in1) z.handled _ a (rz j) m),⟨⟨_,eW _ rfl,rfl,rfl⟩,t.push _⟩,(λd v T L M K C=>?_),(λN R F=>?_)⟩
 .refine Lg v (J d v K) λb e=>?_
  simp only [e,Option.getD_some] at C
  exact oo C
 .have e:((eQ m.size).any λd=>(f[d]?).getD false)=f.any id:=by
   rw [p,bb];exact LSm.range_any f
  rw [e]
  exact post_of r (qA (LSm.kept_iter F)) (.bool _) B
noncomputable def Own (ns:gm) (env:zw) (p:gX):Prop:=p=env.locals\/∃x,h_ ns x=some .cell/\env.cells.lookup x=some p
structure zG (B:Base) (env:zw) (ns:gm) (st:AS) (s:eL) (st':AS) (s':eL):Prop where
 keep:∀b o,s.heap.get? b=some o->¬ic B st b->¬Own ns env b->s'.heap.get? b=some o
 foot:∀b,ic B st' b->ic B st b\/s.heap.get? b=none
structure vN (I:gX) (s s':eL):Prop where
 keep:∀b o,b≠I->s.heap.get? b=some o->s'.heap.get? b=some o
 gens:s'.gens=s.gens
 os:s'.os=s.os
theorem St.toF (x:St c b m q ae):zG c ab v b m q ae:=⟨λa o e f _=>x.keep a o e f,x.foot⟩
theorem FR.xp (F:FR c ab v e b m) (w:Own v ab z):∃o,m.heap.get? z=some o/\¬f' o/\¬ic c b z/\c.h₀.get? z=none:=by
 rcases w with rfl |⟨x,k,i⟩
 .refine Ae F.BQ λf o j l a d _=>?_
  exact qV o a (rK d) F.E0.1 F.E0.2
 .refine oH (F.Du x z i) λh g n o a d=>?_
  exact qV o a (λq=>q.2.2 _ d) h g
theorem zG.trans (x:zG c ab v b m q ae) (F:FR c ab v e q ae) (y:zG c ab v q ae ax aZ):zG c ab v b m ax aZ where
 keep a o d f w:=y.keep a o (x.keep a o d f w) (λj=>(x.foot a j).elim f λl=>by rw [l] at d;contradiction) w
 foot a f:=(y.foot a f).elim (x.foot a) λl=>by
  by_cases g:ic c b a
  .exact .inl g
  .by_cases h:Own v ab a
   .refine eS (F.xp h) λo i _=>?_
    rw [l] at i;contradiction
   .induction d:m.heap.get? a with
    |none=>exact .inr rfl
    |some o=>rw [x.keep a o d g h] at l;contradiction
theorem zG.refl:zG c ab v b m b m:=St.refl.toF
theorem zG.frozen (r:R c b m) (F:FR c ab v e b m) (y:zG c ab v b m q ae):∀a o,m.heap.get? a=some o->f' o->ae.heap.get? a=some o:=λa o g f=>
 y.keep a o g (λh=>by
  refine eS (r.oC h) λi d n=>?_
  rw [g] at d;(injection d with d;subst d);exact n f) λw=>by
  refine gi (F.xp w) λi d n _=>?_
  rw [g] at d;(injection d with d;subst d);exact n f
theorem hU.Cu (a:hU c m.heap aj j) (r:R c b m) (F:FR c ab v e b m) (y:zG c ab v b m q ae):hU c ae.heap aj j:=a.mono (y.frozen r F)
theorem R.but (r:R c b m) (d:vN z m ae) (g:¬ic c b z) (k:c.h₀.get? z=none) (h:∀o,m.heap.get? z=some o->¬f' o):R c b ae where
 objs a o e:=(r.objs a o e).mono (λx j f i=>d.keep x j (λq=>by clear r d g k e;subst q;exact h _ f i) f) (λx f=>d.keep a x (λq=>g (.inl (by rw [<-q,e];simp))) f)
  λs n p q x f=>d.keep n x (λt=>g (.inr (.inl (qB a s p (by rw [e,q,t]))))) f
 old l o e:=d.keep l o (λq=>by clear r d g h;subst q;rw [k] at e;contradiction) (r.old l o e)
 new:=r.new
 Cq:=r.Cq
 vC:=r.vC
 tab:=r.tab.mono (λx j f i=>d.keep x j (λq=>by clear r d g k;subst q;exact h _ f i) f) λo e=>d.keep _ o (λq=>g (.inr (.inr q.symm))) e
 gens:=d.gens.trans r.gens
 os:=d.os.trans r.os
theorem RV.but (q:RV c m.heap J l) (b:vN z m ae) (d:∀o,m.heap.get? z=some o->¬f' o):RV c ae.heap J l:=
 q.mono λa o e f=>b.keep a o (λh=>by clear q b;subst h;exact d _ e f) e
theorem hU.but (q:hU c m.heap aj j) (b:vN z m ae) (d:∀o,m.heap.get? z=some o->¬f' o):hU c ae.heap aj j:=
 q.mono λa o e f=>b.keep a o (λh=>by clear q b;subst h;exact d _ e f) e
theorem FR.but (F:FR c ab v e b m) (j:vN z m ae) (n:ab.locals≠z) (l:∀x d,ab.cells.lookup x=some d->d≠z) (u:∀o,m.heap.get? z=some o->¬f' o):FR c ab v e b ae where
 ok:=F.ok
 holds i x p s r:=(F.holds i x p s r).mono (λa o g f=>j.keep a o (λh=>by clear F j n l s r;subst h;exact u _ g f) g) (λo g=>j.keep _ o n g) λx d h o g=>j.keep d o (l x d h) g
 len:=F.len
 BQ:=wZ F.BQ λf o t w k q=>⟨f,o,t,w,(j.keep _ _ n k),q⟩
 E0:=F.E0
 Du x d h:=oH (F.Du x d h) λa y p o k A=>(rI a y p o (j.keep _ _ (l x d h) k) A)
 code:=F.code
theorem Fd (h:(v.map (·.1)).Nodup):(slots v).Nodup:=by
 unfold slots
 exact h.sublist (UH _ List.filter_sublist)
theorem DA {k a:vA} (h:h_ v ao=some k) (b:h_ v ao=some a):k=a:=by rw [h] at b;exact d3 b
set_option tactic.hygienic true in
theorem pN (F:FR c ab v e b m) (r:R c b m) (T:oj v ao=some a) (S:RV c m.heap J l) (h:∀s',FR c ab v (e.set a (some l)) b s'->R c b s'->zG c ab v b m b s'->bq () s'):WE c L (Sx ab ao J) bq m:=by
 unfold oj at T
 split at T
 .rename_i k D
  split at T
  .rename_i km
   have Q:=ph T
   have P:=Fd F.ok.nd
   have O:ab.scope.kind= .function:=F.ok.kind
   clear T;induction k with
   |«local»=>
    have kz:=F.ok.loc ao D
    clear D km;refine j_ F.BQ λf hf=>?_
    obtain ⟨oL,kC,kF,kH,kD⟩:=(F.xp (.inl rfl))
    refine wpAny_storeName_local kz hf (λE x H=>?_) (by rw [O];rfl)
    have i:vN ab.locals m {m with heap:=E,toks:=m.toks+1}:=⟨λA o i d=>(H.2 A i).trans d,rfl,rfl⟩
    have ku:∀o,m.heap.get? ab.locals=some o->¬f' o:=λo d=>by rw [kC] at d;(injection d with d;subst d);exact kF
    have u:∀y o,m.heap.get? y=some o->f' o->E.get? y=some o:=λy o d z=>i.keep y o (λq=>by subst q;exact ku _ d z) d
    have kq:∀z n,ab.cells.lookup z=some n->∀o,m.heap.get? n=some o->E.get? n=some o:=λz n M o d=>i.keep n o (λq=>F.ok.He z n M q.symm) d
    refine h _ ⟨F.ok,λj z w p g=>?_,by rw [gI];exact F.len,(oJ _ x),F.E0,λz n M=>?_,F.code⟩ (r.but i kH kD ku) ⟨λA o d _ nw=>i.keep A o (λq=>nw (.inl q)) d,λA fb=>.inl fb⟩
    .clear r h O kC kF kH kD H i ku;by_cases G:j=a
     .clear F P hf kq;subst G
      rw [Q] at p;(injection p with p;subst p)
      rw [nJ] at g
      split at g
      .split at g
       .injection g with g;injection g with g;subst g
        exact .inl (nW kz _ J x (by simp) (S.mono u))
       .contradiction
      .rename_i ky;exact absurd rfl ky
     .rw [iH (nz G)] at g
      have kx:z≠ao:=λq=>by
       clear F S kz hf x u kq g;subst q
       exact G ((iR (ew.mp p).1 P).mp (p.trans Q.symm))
      rcases F.holds j z w p g with ⟨K,f1,C,n1,e1,N⟩ |⟨K,n,C,s,⟨o,t,B⟩,N⟩
      .refine .inl (nW K _ C x ?_ (N.mono u))
       show (if z=ao then some J else f z)=some C
       rw [if_neg kx]
       rw [Heap.Ns.agree hf n1 z];exact e1
      .exact .inr (nW K n C s ⟨o,kq z n s o t,B⟩ (N.mono u))
    .refine oH (F.Du z n M) λZ a2 w o t B=>?_
     exact rI Z a2 w o (kq z n M o t) B
   |cell=>
    have U:=F.ok.own ao D
    obtain ⟨_,n,s⟩:=(F.ok.var ao .cell D (.inl rfl))
    refine oH (F.Du ao n s) λY kn kK oc X W=>?_
    have kl:∀o,m.heap.get? n=some o->¬f' o:=λo d q=>by rw [X] at d;(injection d with d;subst d);exact q.2.2 _ W
    refine wpAny_storeName_cell O U s (ei oc X W) λE x H=>?_
    have i:vN n m {m with heap:=E}:=⟨λA o i d=>(H.2 A i).trans d,rfl,rfl⟩
    have u:∀y o,m.heap.get? y=some o->f' o->E.get? y=some o:=λy o d z=>i.keep y o (λq=>by clear F r S h Q P O D km U s Y kn X W x H i;subst q;exact kl _ d z) d
    have V:∀o,m.heap.get? ab.locals=some o->E.get? ab.locals=some o:=λo d=>i.keep _ o (F.ok.He ao n s) d
    refine h _ ⟨F.ok,λj z w p g=>?_,by rw [gI];exact F.len,?_,F.E0,λz I M=>?_,F.code⟩ (r.but i Y kn kl) ⟨λA o d _ nw=>i.keep A o (λq=>nw (.inr (ei ao D (q▸s)))) d,λA fb=>.inl fb⟩
    .clear r h O D km Y kn X W kl H;by_cases G:j=a
     .clear F P i V;subst G
      rw [Q] at p;(injection p with p;subst p)
      rw [nJ] at g
      split at g
      .split at g
       .injection g with g;injection g with g;subst g
        exact .inr (nW (by rw [U];simp) n J s x (S.mono u))
       .contradiction
      .rename_i ky;exact absurd rfl ky
     .rw [iH (nz G)] at g
      have kx:z≠ao:=λq=>by
       clear F S U s x i u V g;subst q
       exact G ((iR (ew.mp p).1 P).mp (p.trans Q.symm))
      rcases F.holds j z w p g with ⟨K,f1,C,⟨o,es,ep,t,q2⟩,e1,N⟩ |⟨K,I,C,kG,⟨o,t,B⟩,N⟩
      .exact .inl (nW K f1 C ⟨o,es,ep,V o t,q2⟩ e1 (N.mono u))
      .exact .inr (nW K I C kG ⟨o,i.keep I o (λq=>kx (F.ok.apart z ao I kG (q▸s))) t,B⟩ (N.mono u))
    .obtain ⟨f,o,es,ep,t,q2⟩:=F.BQ
     exact ⟨f,o,es,ep,(V o t),q2⟩
    .clear r S h Q P O D km U s Y kn X W kl H u V;refine oH (F.Du z I M) λZ a2 w o t B=>?_
     clear F M;by_cases kB:I=n
     .clear i t B;subst kB;refine eS x λo' kJ kI=>?_;exact rI Z a2 _ o' kJ kI
     .exact rI Z a2 w o (i.keep I o kB t) B
   |_=>contradiction
  .contradiction
 .contradiction
inductive wK (B:Base) (h:vX) (I:gX):It->List AV->Nat->Prop where
 |list {a:gX} {xs:List AV} {i:Nat}:h.IsListIter I a i->a≠I->wK B h I (.list a xs) xs i
 |tup {t:gX} {items:Array eH} {n:Nat} {xs:List AV} {i:Nat}:h.IsTupleIter I t i->h.get? t=some (gr "tuple" items n)->hU B h items.toList xs->t≠I->wK B h I .tup xs i
 |dict {a:gX} {ks:List AV} {i:Nat}:h.IsKeyIter I a i ks.length ks.length->a≠I->(∀k∈ks,∃i,k= .int i)->wK B h I (.dict a ks) ks i
 |pT {x left step:Int} {xs:List AV} {i:Nat}:IsRangeIter h I x left step->0<=left->xs.drop i=(eQ left.toNat).map (λ(k:Nat)=>.int (x+step*k))->wK B h I .pT xs i
variable {bC:It}
theorem wK.mono (q:wK c H z bC j a) (i:∀d o,H.get? d=some o->f' o->b8.get? d=some o) (g:∀o,H.get? z=some o->b8.get? z=some o):wK c b8 z bC j a:=by
 induction q with
 |list d b=>refine eS d λo f r=>?_;exact .list (ei o (g _ f) r) b
 |tup d e r b=>refine eS d λo f k=>?_;exact .tup (ei o (g _ f) k) (i _ _ e (iz (.inl rfl) (by (repeat intro _);contradiction) (by (repeat intro _);contradiction))) (r.mono i) b
 |dict d b h=>refine eS d λo f r=>?_;exact .dict (ei o (g _ f) r) b h
 |pT d b h=>exact .pT (g _ d) b h
theorem wK.nf (q:wK c H z bC j a):∃o,H.get? z=some o/\¬f' o:=by
 have i:∀{o:YI} {T:String},o.cls= .type T->T≠"tuple"->T≠"range"->T≠"code"->¬f' o:=λg m k l f=>by
  rcases f.1 with q |q |q<;>rw [g] at q<;>injection q with q
  .exact m q
  .exact k q
  .exact l q
 induction q using wK.casesOn with
 |list d b=>refine gi d λo h g _=>?_;exact ei o h (i g (by decide) (by decide) (by decide))
 |tup d e r b=>refine gi d λo h g _=>?_;exact ei o h (i g (by decide) (by decide) (by decide))
 |dict d b n=>refine gi d λo h g _=>?_;exact ei o h (i g (by decide) (by decide) (by decide))
 |pT d b n=>exact ei _ d (i rfl (by decide) (by decide) (by decide))
theorem L9 (c:p.natAbs<=1000000) (b:aB.natAbs<=1000000) (e:bZ=1\/bZ= -1):Bz p aB bZ=true:=by
 have a:∀x:Int,x.natAbs<=3000000->wG x=true:=by
  intro x f
  unfold wG
  simp only [eV,decide_eq_true_eq]
  exact Q8 f
 have d:(iw p aB bZ).natAbs<=3000000:=by
  unfold iw
  rcases e with rfl |rfl
  .simp only [show (1:Int)>0 by decide,if_true,pL]
   split<;>(first |exact V2 c b |exact ft _)
  .simp only [show ¬(-1:Int)>0 by decide,if_false,BD,pL]
   split<;>(first |exact V2 b c |exact ft _)
 unfold Bz
 rw [a p (by exact a_ c (by decide)),a aB (by exact a_ b (by decide)),a bZ (by (clear c b a d;rcases e with rfl |rfl<;>decide)),a _ d]
 clear c d;rcases e with rfl |rfl
 .simp only [show (1:Int)>0 by decide,if_true];rw [a _ (by exact n1 (congrArg Ld (S4 aB)) (a_ b (by decide)))];simp
 .simp only [show ¬(-1:Int)>0 by decide,if_false];rw [a _ (by exact n1 (congrArg Ld (S4 aB)) (a_ b (by decide)))];simp
variable {bH:It->List AV->Prop}
theorem wc (D:gU c) (r:R c b m) (n:RV c m.heap J l) (h:oh b bH l):
 WE c L (QT J) (λQ C=>∃I t j,Q= .ref I/\fH m C/\m.heap.get? I=none/\wK c C.heap I t j 0/\bH t j) m:=by
 have s:∀{a:gX} {o:YI},m.heap.get? a=some o->a≠m.heap.objs.size:=λe q=>by subst q;rw [ik] at e;contradiction
 induction h with
 | @tup j h=>
  refine g0 J (iB n) λa V k e x q=>?_
  refine wpAny_pyIter_tuple (sZ _ e rfl _ rfl) (gB _ _ _ rfl (jw _ _) (ik _) (.tup ⟨_,eW _ rfl,rfl,rfl⟩ (fm _ e) (q.grow (jw m _)) (s e)) h)
 | @pT v i u j f h=>
  cases n with
  |pT z B A=>
   have w:u=1\/u= -1:=by
    unfold w_ at f
    by_cases E:u=1
    .exact .inl E
    .rw [if_neg E] at f
     by_cases y:u= -1
     .exact .inr y
     .rw [if_neg y] at f;contradiction
   refine wpAny_pyIter_range z (L9 B A w) (gB _ _ _ rfl (jw _ _) (ik _) (.pT (eW _ rfl) ?_ ?_) h)
   .unfold iw
    rcases w with rfl |rfl
    .simp only [show (1:Int)>0 by decide,if_true,pL];split<;>(first |exact v8 _ |exact V3 (by assumption))
    .simp only [show ¬(-1:Int)>0 by decide,if_false,BD,pL];split<;>(first |exact v8 _ |exact V3 (by assumption))
   .unfold w_ at f
    clear D r s h B A z;rcases w with rfl |rfl
    .rw [if_pos rfl] at f;(injection f with f;subst f)
     have:(iw v i 1).toNat=(i -v).toNat:=by
      unfold iw
      simp only [show (1:Int)>0 by decide,if_true,pL];split<;>(first |exact congrArg qi (nj _ _) |exact V4 (by assumption))
     rw [this,rG]
     apply fk;intro k _;congr 1;rw [UK]
    .rw [if_neg (by decide),if_pos rfl] at f;(injection f with f;subst f)
     have:(iw v i (-1)).toNat=(v -i).toNat:=by
      unfold iw
      simp only [show ¬(-1:Int)>0 by decide,if_false,BD,pL];split<;>(first |exact congrArg qi (nj _ _) |exact V4 (by assumption))
     rw [this,rG]
     apply fk;intro k _;congr 1;exact V5
 | @list a j e h=>
  obtain rfl:=gM n
  refine gp (r.isList e) λT k g q x P W=>?_
  exact BG P (gB _ _ _ rfl (jw _ _) (ik _) (.list ⟨_,eW _ rfl,rfl,rfl⟩ (s g)) h)
 | @dict a N e i h=>
  obtain rfl:=gM n
  refine iK (r.oP e) λd x=>?_
  refine gi (d.GL i) λS F q K=>?_
  have O:S.length=(N.map (·.1)).length:=by have:=congrArg fi K;simpa using this.symm
  refine wpAny_pyIter_dict (r.uB D e) F (gB _ _ _ rfl (jw _ _) (ik _) (.dict ?_ ?_ (λk H=>by refine iQ k (ck.mp H) λp M=>?_;exact i p M)) h)
  .rw [<-O];exact gq _ (eW _ rfl) rfl rfl
  .refine i5 F λo U G _=>?_;exact s G
theorem Hj (q:wK c m.heap z bC j a) (h:aG (.ref z) m):WE c L (QT (.ref z)) aG m:=by
 induction q with
 |list d b=>exact wpAny_pyIter_listiter d h
 |tup d e r b=>exact wpAny_pyIter_tupleiter d h
 |dict d b f=>exact wpAny_pyIter_keyiter d h
 |pT d b f=>exact wpAny_pyIter_rangeiter d h
set_option tactic.hygienic true in
theorem int_is (h:(Wj bo bp).is p J=true):∃t,J= .int p t:=by
 rcases J with ⟨⟩<;>simp [Wj,Value.isInt] at h
 rename_i i t;subst h;exact ⟨t,rfl⟩
set_option tactic.hygienic true in
theorem wK.next {A:jc} (q:wK c m.heap z bC j a) (r:R c b m) (G:bC.ok b) (x:j[a]? =some l):
 WE c A (UY (.ref z)) (λY L=>∃w,Y=some w/\vN z m L/\wK c L.heap z bC j (a+1)/\RV c L.heap w l) m:=by
 refine eS q.nf λoI U Q=>?_
 have C:∀{u:vX} {t:Nat},iE z m.heap u->vN z m {m with heap:=u,toks:=t}:=λi=>⟨λs o C e=>(i.2 s C).trans e,rfl,rfl⟩
 have I:∀{u:vX},iE z m.heap u->∀n o,m.heap.get? n=some o->f' o->u.get? n=some o:=λi n o e f=>(i.2 n λkm=>by clear q r G x C i;subst km;rw [U] at e;(injection e with e;subst e);exact Q f).trans e
 cases q with
 |list n s=>
  rename_i la
  refine gp (r.isList G) λkz ku g q kn il hz=>?_
  refine eS (q.get x) λw E J=>?_
  rw [gE] at E
  exact wpAny_pyNext_list_item n il E λu B i=>qV w rfl (C i) (.list B s) (J.mono (I i))
 |tup n e q s=>
  refine eS (q.get x) λw E J=>?_
  rw [gE] at E
  exact wpAny_pyNext_tuple_item n (sZ _ e rfl _ rfl) E λu B i=>qV w rfl (C i) (.tup B ((i.2 _ s).trans e) (q.mono (I i)) s) (J.mono (I i))
 |dict n s D=>
  refine eS G λkB hk O=>?_
  refine iK (r.oP hk) λd kn=>?_
  obtain ⟨F,hd,q,V⟩:=d.GL λp hp=>D _ (O▸ck.mpr (ei p hp rfl))
  have N:F.length=j.length:=by have:=congrArg fi (V.symm.trans O);simpa using this
  have T:a<F.length:=by rw [N];exact (ew.mp x).1
  have kq:j[a]? =some (.int F[a].1):=by rw [<-O,V,ed,df T];rfl
  rw [kq] at x;obtain rfl:=d3 x
  rw [<-N] at n
  refine wpAny_pyNext_dict_item n hd (k:=F[a].1) (v:=F[a].2) (df T) λkl u kx B i=>?_
  refine rY kl (int_is kx) λt=>?_
  rw [N] at B
  exact qV _ rfl (C i) (.dict B s D) (.int _ _)
 |pT n s D=>
  rename_i y left S
  have H:0<left:=by
   clear r U Q C I n G;rcases Int.lt_or_le 0 left with h |h
   .exact h
   .have:left=0:=by exact rH (u_ s h)
    clear s h;subst this
    have X:j.drop a=[]:=D
    have:=(ew.mp x).1
    have K:=congrArg fi X
    rw [ey] at K;simp at K;exact absurd (nG K) (x9.mpr this)
  have Z:l= .int y:=by
   have P:(j.drop a)[0]? =some l:=by rw [pa];simpa using x
   rw [D,ed,ju (by exact S1.mpr H)] at P
   simp at P;exact P.symm
  subst Z
  refine wpAny_pyNext_range_item n H λu B i=>qV _ rfl (C i) (.pT B (by exact v7 H) ?_) (.int _ _)
  have h1:j.drop (a+1)=(j.drop a).drop 1:=by rw [ig]
  rw [h1,D]
  obtain ⟨M,W⟩:∃M,left.toNat=M+1:=oJ (left.toNat -1) (by exact Of (d:=0) (S1.mpr H))
  have ky:(left -1).toNat=M:=by exact tn W
  rw [W,ky,uf,eG,List.drop_one,List.tail_cons,er]
  apply fk
  intro ku _
  simp only [ou]
  congr 1
  rw [SY S,SY S]
  push_cast
  rw [Int.add_mul];exact WU
set_option tactic.hygienic true in
theorem wK.done {A:jc} (q:wK c m.heap z bC j a) (r:R c b m) (B:bC.ok b) (w:A.handled=none) (u:j[a]? =none):
 WE c A (UY (.ref z)) (λv I=>v=none/\vN z m I) m:=by
 have n:∀{i:vX} {t:Nat},SK z m.heap i->vN z m {m with heap:=i,toks:=t}:=λf=>⟨λs o n e=>f s o n e,rfl,rfl⟩
 cases q with
 |list h s=>
  obtain ⟨N,k,g,q,l,K,J⟩:=r.isList B
  exact wpAny_pyNext_list_end w h K (EH (by rw [J];exact i6.mp u)) λi f=>⟨rfl,n f⟩
 |tup h e q s=>
  exact wpAny_pyNext_tuple_end w h (sZ _ e rfl _ rfl) (EH (by rw [<-eB,q.length];exact i6.mp u)) λi f=>⟨rfl,n f⟩
 |dict h s x=>
  obtain ⟨P,F,C⟩:=B
  obtain ⟨d,l⟩:=r.oP F
  obtain ⟨L,M,q,G⟩:=d.GL λp H=>x _ (C▸ck.mpr (ei p H rfl))
  have E:L.length=j.length:=by have:=congrArg fi (G.symm.trans C);simpa using this
  rw [<-E] at h
  exact wpAny_pyNext_dict_end w h M (i_ (by rw [E];exact i6.mp u)) λi f=>⟨rfl,n f⟩
 |pT h s x=>
  rename_i y left O
  refine wpAny_pyNext_range_end w h ?_ λi f=>⟨rfl,n f⟩
  have D:=congrArg fi x
  rw [ey,bb,fc] at D
  have:=i6.mp u
  exact Oc.mp (D.symm.trans (vB this))
theorem za (q:wK c m.heap z bC j a) (p:gc) (v:eH) (h:bq () m):WE c L (rT p (.ref z) v) bq m:=by
 have l:∀{o:YI} {T:String} {s:Array eH} {d:gX},m.heap.get? z=some o->o.cls= .type T->o.data= .fields s->(["enumerate","zip","dict_itemiterator","dict_reverseitemiterator","odict_iterator","itertools.zip_longest","itertools.pairwise"].contains T)=false->
  WE c L (load z>>= λo=>match o.cls,o.data with
   | .type n,.fields s=>if (["enumerate","zip","dict_itemiterator","dict_reverseitemiterator","odict_iterator","itertools.zip_longest","itertools.pairwise"].contains n&&s[0]? ==some (KZ d))=true then (rule "for.unpacks-the-owned-tuple">>= λ_=>updateField z 0 .none) else pure ()
   |_,_=>pure ()) bq m:=by
  intro o T s d f i k w
  refine b5 (wpAny_load f ?_)
  rw [i,k]
  dsimp only
  rw [w,Bool.false_and,if_neg (by decide)]
  exact dj h
 have t:∀d,WE c L (rT p (.ref z) (.ref d)) bq m:=by
  intro d
  have g:WE c L (rT (.List [] p.pos) (.ref z) (.ref d)) bq m:=by
   induction q using wK.casesOn with
   |list x b=>refine gi x λo f i k=>?_;exact l f i k (by decide)
   |tup x e r b=>refine gi x λo f i k=>?_;exact l f i k (by decide)
   |dict x b u=>refine gi x λo f i k=>?_;exact l f i k (by decide)
   |pT x b u=>exact l x rfl rfl (by decide)
  clear l q
  induction p using ue with
  |List=>exact g
  |Tuple=>exact g
  |_=>exact dj h
 clear l q
 induction v using p8 with
 |ref d=>exact t d
 |_=>clear t;induction p using ue with |_=>exact dj h
theorem Cv:∀{a:List gc} {l:List Nat},uy v a=some l->l.length=a.length:=by
 intro d
 induction d with
 |nil=>
  intro _ h
  (injection h with h;subst h);rfl
 |cons e r b=>
  intro l h
  obtain ⟨x,p,i,f,_,c,rfl,rfl⟩:=th h
  exact congrArg rW (b c)
theorem ym:∀{a:List gc} {l:List Nat},uy v a=some l->(z_ a ab).length=a.length/\(z_ a ab).findIdx? (·.1)=none:=by
 intro g
 induction g with
 |nil=>
  intro _ _
  exact ⟨rfl,rfl⟩
 |cons e r b=>
  intro l h
  obtain ⟨x,p,i,j,_,d,rfl,rfl⟩:=th h
  refine iK (b d) λf c=>?_
  refine ⟨congrArg rW f,?_⟩
  show List.findIdx? (·.1) ((false,x8 (.Name x p) ab)::z_ r ab)=none
  rw [KS,c];rfl
noncomputable def pE (m:MM) (l:List Nat) (xs:List AV):MM:=(l.zip xs).foldl (λm p=>m.set p.1 (some p.2)) m
theorem L_:∀{j:List gc} {l:List Nat} {a:List eH} {d:List AV} {m:MM} {s:eL},uy v j=some l->FR c ab v m b s->R c b s->hU c s.heap a d->d.length=l.length->
 ∀{Q:Unit->eL->Prop},(∀g,FR c ab v (pE m l d) b g->R c b g->zG c ab v b s b g->Q () g)->WE c L (rq ((z_ j ab).map (·.2)) a) Q s:=by
 intro G
 induction G with
 |nil=>
  intro l a d m s f F r q k Q h
  (injection f with f;subst f)
  have:d=[]:=gT.mp k
  clear k;subst this;cases q
  exact dj (h s F r .refl)
 |cons e j D=>
  intro l a d m s f F r q k Q h
  obtain ⟨x,p,i,J,u,z,rfl,rfl⟩:=th f
  induction d using ej with
  |nil=>contradiction
  |cons y K=>
   cases q with
   | @cons A _ a _ t w=>
    show WE c L (do yR a (x8 (.Name x p) ab A);rq ((z_ j ab).map (·.2)) a) Q s
    refine b5 (f5 (R8 (pN F r u t λg n I o=>?_)))
    exact D z n I (w.Cu r F o) (by simpa using k) λB C E H=>h B C E (o.trans n H)
variable {bP:MM}
theorem wd (d:2<=C.length) (h:jN C l e=some bP):∃c,l= .tup c/\c.length=C.length/\bP=pE e C c:=by
 match C,d with
 |a::b::r,_=>
  induction l using AV.casesOn with
  |tup c=>exact iK (Lu h) λf h=>⟨_,rfl,f,h.symm⟩
  |_=>contradiction
theorem DB (F:FR c ab v e b m) (r:R c b m) (B:L.handled=none) (d:Am v a0=some C) (j:jN C l e=some bP) (x:RV c m.heap J l) (h:∀f,FR c ab v bP b f->R c b f->zG c ab v b m b f->bq () f):WE c L (x8 a0 ab J) bq m:=by
 induction a0 using ue with
 |Name y p=>
  refine eS (fV.mp d) λi D t=>?_;clear B d;subst t
  (injection j with j;subst j)
  exact R8 (pN F r D x h)
 |Tuple W k p=>
  refine eS (jh.mp d) λT s d=>?_
  refine iK (Lu d) λA d=>?_
  .subst d
   refine gi (wd A j) λQ t u K=>?_;clear A j d;subst t;subst K
   refine g0 J (iB x) λa I U n V q=>?_
   refine iK (ym (ab:=ab) s) λS E=>?_
   have O:I.size=Q.length:=by rw [<-q.length,eB]
   refine QQ B (sZ _ n rfl _ rfl) (by rw [S,O,u,Cv s]) E λw G=>?_
   have g:fH m {m with heap:=w}:=qA λM o n=>G M o (λz=>by subst z;rw [ik] at n;contradiction) n
   have y:St c b m b {m with heap:=w}:=.grow g
   exact L_ s (F.step r y) (r.grow g) (q.grow g) u λf H P N=>h f H P (y.toF.trans (F.step r y) N)
 |_=>contradiction
theorem BU (g:m.heap.get? z=some (listOf bf a)) (f:0<=p) (d:p.toNat<bf.size) (e:bf.size<=fE) (h:bq () {m with heap:=m.heap.update z (fJ (·.setIfInBounds p.toNat J))}):WE c L (GA (.ref z) (.int p bF) J) bq m:=by
 have b:m.TypeIs (.ref z) "list":=ei _ g rfl
 have i:p<2 ^ 63:=by unfold fE at e;exact S_ d e
 unfold GA
 try with_reducible refine f5 ?_
 refine b5 (t9 b (by decide) ?_)
 refine b5 (pQ (name:=iV "__setitem__") b ua
  (nc ua b QV ?_ (Sd _ _ _)))
 show f_ _ _ (pS (.int p bF)>>= _) _ _ m
 refine b5 (wpAny_listSubscript_int (fitsIndex_of f i) ?_)
 obtain ⟨j,rfl⟩:=tY f
 have k:j<bf.size:=by simpa using d
 have l:bf[j]? =some bf[j]:=ow k
 show f_ _ _ ((seqItemAt z j>>= λr=>pure (r.map (j,·)))>>= _) _ _ m
 refine b5 (b5 (wpAny_seqItemAt g rfl (dj ?_)))
 rw [l]
 show f_ _ _ (setSeqItemAt z j J>>= _) _ _ m
 refine b5 (wpAny_setSeqItemAt g rfl ?_)
 first
  |exact b5 (dj (dj (ei .none rfl (dj h))))
  |exact dj ⟨.none,rfl,dj h⟩
theorem AB {l:Array eH} {u:Tok} (g:m.heap.get? z=some (listOf bf a)) (r:m.heap.get? aV=some (listOf l d)) (A:z≠aV) (w:m.heap.IsSliceOf cU (.int p bF) (.int aB u) .none) (f:0<=p) (b:p<=aB) (k:aB.toNat<=bf.size) (n:bf.size+l.size<=fE) (h:bq () {m with heap:=m.heap.update z (fJ λo=>o.extract 0 p.toNat++l++o.extract aB.toNat o.size)}):WE c L (GA (.ref z) (.ref cU) (.ref aV)) bq m:=by
 have q:m.TypeIs (.ref z) "list":=ei _ g rfl
 have t:m.TypeIs (.ref aV) "list":=ei _ r rfl
 refine gi (id w) λy e C i=>?_
 have s:m.TypeIs (.ref cU) "slice":=ei y e C
 have j:=hX
 unfold GA
 try with_reducible refine f5 ?_
 refine b5 (t9 q (by decide) ?_)
 refine b5 (pQ (name:=iV "__setitem__") q ua
  (nc ua q QV ?_ (Sd _ _ _)))
 show f_ _ _ (pS (.ref cU)>>= _) _ _ m
 refine b5 ?_
 unfold pS
 refine b5 (rS s slice_no_index ?_)
 simp only [H9,if_true]
 refine dj ?_
 show f_ _ _ (typeOf (.ref cU)>>= _) _ _ m
 refine b5 (sq s ?_)
 rw [if_neg (by decide)]
 rw [listSliceParts_eq]
 refine b5 (b5 (t_ e i (x:=.none) rfl (b5 (GO .none ?_))))
 rw [if_neg (by decide)]
 refine b5 (t_ e i (x:=.int p bF) rfl (b5 (GO (.int p bF) ?_)))
 refine b5 (t_ e i (x:=.int aB u) rfl (b5 (GO (.int aB u) (dj ?_))))
 dsimp only
 have D:yW (.ref z) (.ref aV)=false:=by
  unfold yW
  exact beq_false_of_ne A
 rw [D]
 simp only [fW,if_false]
 refine b5 ?_
 unfold Uq
 refine b5 (sq t ?_)
 rw [if_pos (by decide)]
 unfold Uo
 refine b5 (sU r rfl ?_)
 refine dj ?_
 refine b5 (b5 (sU g rfl (dj ?_)))
 refine b5 (Yp (sliceIndices_raw (some p) (some aB) none bf.size (by simp)) ?_)
 have v:ub (some p) (some aB) none bf.size=(p,aB,1):=by
  simp only [ub,KQ,show (1:Int)>0 by decide,if_true,if_neg (show ¬p<0 by exact oA f),if_neg (show ¬aB<0 by exact nq.mpr (jD f b))]
  congr 1
  .exact V6 f b k
  .congr 1;exact V6 (jD f b) (v8 _) k
 rw [v]
 dsimp only
 rw [if_pos (by decide)]
 refine b5 (nE ?_)
 rw [if_neg (by unfold yV;simp only [decide_eq_true_eq];exact iY.mpr (a_ n j))]
 have B:(max p aB).toNat=aB.toNat:=by rw [qj b]
 rw [B]
 refine b5 ?_
 show f_ _ _ (updateSeq z _) _ _ m
 refine wpAny_updateSeq g rfl ?_ (by exact a_ (eg _ _) (a_ n j)) ?_
 .refine b5 (Ys ?_)
  first
   |exact dj (ei .none rfl (dj h))
   |exact b5 (dj (dj ⟨.none,rfl,dj h⟩))
 .simp only [Array.size_append,Array.size_extract];exact WW (Lc b) k (a_ n j)
theorem Fe (HB:gU c) (X:mO a L) (r:R c b m) {Q:AS->Prop} (T:RV c m.heap J l) (B:RV c m.heap aT af) (z:RV c m.heap cT b7) (h:ON b b7 Q l af) (I:∀kn s',R c kn s'->St c b m kn s'->Q kn->bq () s'):WE c L (GA J aT cT) bq m:=by
 induction h with
 | @list M u j e h0 h1 F=>
  obtain rfl:=gM T
  refine rY aT (gn B) λkl=>?_
  refine gp (r.isList e) λku aT g q K il hz=>?_
  refine BU g h0 (by exact fA h1 (id (rH hz))) (by exact n1 hz K) ?_
  obtain ⟨C,G⟩:=r.zU (t:=m.toks) (f:=λb7=>b7.setIfInBounds j.toNat cT) e g (ys:=u.set j.toNat b7) (by
   rw [Array.toList_setIfInBounds];exact q.set z _) (by rw [gI];exact K)
  exact I _ _ C G F
 | @dict M k af e O S F=>
  obtain rfl:=gM T
  refine iK (r.oP e) λd K=>?_
  have H:ic c b M:=.inl (by rw [e];simp)
  rcases O with ⟨⟨i,rfl⟩,hi⟩ |⟨O,ht⟩
  .refine rY aT (gn B) λkl=>?_
   refine gi (d.GL hi) λD N q v=>?_
   have V:D.length=k.length:=by have:=congrArg fi v;simpa using this.symm
   have W:=N.dictOf.typeIs (s:=m)
   unfold GA
   try with_reducible refine f5 ?_
   refine b5 (t9 W (by decide) ?_)
   refine b5 (pQ (name:=iV "__setitem__") W R_
    (nc R_ W entry_dict_setitem ?_ (args_dict_setitem _ _ _)))
   show f_ _ _ (Ut "__setitem__" ⟨[.ref M,.int i kl,cT],[]⟩>>= _) _ _ m
   refine b5 (wL W ?_)
   show f_ _ _ (K0 M (.int i kl) cT>>= _) _ _ m
   refine b5 (wb (knd:=t8 c) (pH _ _ i kl) N (λU km y x=>dj (ei .none rfl (dj ?_))) (λU km y x=>dj (ei .none rfl (dj ?_))) (a_ (by exact n1 V (eA S)) hX))
   .have w:=r.nN H x
    have E:AV.int i∈k.map (·.1):=(nZ v).mp (by induction hv:jm D i using d7 with
     |none=>exact absurd hv km
     |some _=>rfl)
    have n:dictPut k (.int i) b7=k.map λp=>if p.1= .int i then (.int i,b7) else p:=by unfold dictPut;rw [if_pos E]
    have P:RO c U M (.dict (dictPut k (.int i) b7)):=by
     refine .dict (.int (by rw [bb];exact y) ?_ ?_) (by rw [n,bb];exact K)
     .rw [n]
      clear n E km y N F I S K d e V hi
      induction k generalizing D with
      |nil=>induction D using ej with
       |nil=>exact .nil
       |cons _ _=>clear HB X r z T H B W x w q;contradiction
      |cons p ps ih=>
       induction D using ej with
       |nil=>clear HB X r z T H B W x w ih q;contradiction
       |cons iv D=>
        simp only [eG,ix] at v⊢
        cases q with
        |cons q1 q2=>
         have he:(p.1=AV.int i)↔iv.1=i:=by rw [v.1];exact ⟨λh=>by injection h,λh=>by rw [h]⟩
         refine .cons ?_ (ih _ q2 v.2)
         by_cases A:iv.1=i
         .rw [if_pos A,if_pos (he.mpr A)];exact z.mono w
         .rw [if_neg A,if_neg (λl=>A (he.mp l))];exact q1.mono w
     .rw [n,er,er]
      have e1:k.map ((λb7=>b7.1)∘λp=>if p.1= .int i then (.int i,b7) else p)=k.map (·.1):=by
       apply fk;intro p _;simp only [ou];split
       .rename_i hp;exact hp.symm
       .rfl
      have e2:D.map ((λp:Int×eH=>AV.int p.1)∘λkv=>if kv.1=i then (kv.1,cT) else kv)=D.map λp=>.int p.1:=by
       apply fk;intro p _;simp only [ou];split<;>rfl
      rw [e1,e2];exact v
    obtain ⟨C,G⟩:=r.upd (t:=m.toks+1) (o:=.dict (dictPut k (.int i) b7)) e x (.inl (iz rfl (by (repeat intro _);contradiction) (by (repeat intro _);contradiction))) P
    exact I _ _ C G F
   .have w:=r.nN H x
    have E:AV.int i∉k.map (·.1):=λhm=>by
     have:=(nZ v).mpr hm
     rw [km] at this;contradiction
    have n:dictPut k (.int i) b7=k++[(.int i,b7)]:=by unfold dictPut;rw [if_neg E]
    have P:RO c U M (.dict (dictPut k (.int i) b7)):=by
     refine .dict (.int (by rw [bh];exact y) ?_ ?_) (by rw [n,bh];exact S)
     .rw [n,b_,b_];exact (q.mono w).append (.cons (z.mono w) .nil)
     .rw [n,b_,b_,v];rfl
    obtain ⟨C,G⟩:=r.upd (t:=m.toks+1) (o:=.dict (dictPut k (.int i) b7)) e x (.inl (iz rfl (by (repeat intro _);contradiction) (by (repeat intro _);contradiction))) P
    exact I _ _ C G F
  .refine gi (d.Vs ht) λZ N q v=>?_
   refine j_ O.1 λu kq=>?_;subst kq
   refine mW (iB B) λky kx k' kq g _ q'=>?_;subst kq
   have V:Z.length=k.length:=by have:=congrArg fi v;simpa using this.symm
   refine wpAny_setItem_heap (knd:=tupK c) (vg X) ⟨O,B⟩ N (λU y x=>?_) (a_ (by exact n1 V (eA S)) hX)
   have w:=r.nN H x
   induction Y:Sb Z (.tup u) using d7 with
   |none=>
    have E:AV.tup u∉k.map (·.1):=λhm=>by
     have:=(tj v).mpr hm
     rw [Y] at this;contradiction
    have n:dictPut k (.tup u) b7=k++[(.tup u,b7)]:=by unfold dictPut;rw [if_neg E]
    rw [storedH_new Y] at y
    have P:RO c U M (.dict (dictPut k (.tup u) b7)):=by
     refine .dict (.tup y ?_ ?_ ?_) (by rw [n,bh];exact S)
     .rw [n,b_,b_];exact (q.mono w).append (.cons (z.mono w) .nil)
     .rw [n,b_,b_,v];rfl
     .rw [n];simp
    obtain ⟨C,G⟩:=r.upd (t:=m.toks+(tupK c).draws (.tup u)) (o:=.dict (dictPut k (.tup u) b7)) e x (.inl (iz rfl (by (repeat intro _);contradiction) (by (repeat intro _);contradiction))) P
    exact I _ _ C G F
   |some p=>
    have E:AV.tup u∈k.map (·.1):=(tj v).mp (by rw [Y];rfl)
    have n:dictPut k (.tup u) b7=k.map λp=>if p.1= .tup u then (.tup u,b7) else p:=by unfold dictPut;rw [if_pos E]
    rw [storedH_old Y] at y
    have P:RO c U M (.dict (dictPut k (.tup u) b7)):=by
     refine .dict (.tup y ?_ ?_ ?_) (by rw [n,bb];exact K)
     .rw [n]
      clear n E y N F I S K d e V ht Y
      induction k generalizing Z with
      |nil=>clear HB X r z T H O B g q' x w q;induction Z using ej with
       |nil=>exact .nil
       |cons _ _=>contradiction
      |cons p ps ih=>
       induction Z using ej with
       |nil=>clear HB X r z T H O B g q' x w ih q;contradiction
       |cons iv D=>
        simp only [eG,ix] at v⊢
        cases q with
        |cons q1 q2=>
         refine .cons ?_ (ih _ q2 v.2)
         unfold putAt
         by_cases A:iv.1= .tup u
         .rw [if_pos A,if_pos (v.1.trans A)];exact z.mono w
         .rw [if_neg A,if_neg (λl=>A (v.1.symm.trans l))];exact q1.mono w
     .rw [n,er,keys_map_putAt]
      have e1:k.map ((λb7=>b7.1)∘λp=>if p.1= .tup u then (.tup u,b7) else p)=k.map (·.1):=by
       apply fk;intro p _;simp only [ou];split
       .rename_i hp;exact hp.symm
       .rfl
      rw [e1];exact v
     .rw [n]
      intro hn
      rw [jt] at hn
      clear HB X r z I e S T d K H ht N q v F O B g q' V y x w Y n;subst hn;contradiction
    obtain ⟨C,G⟩:=r.upd (t:=m.toks+(tupK c).draws (.tup u)) (o:=.dict (dictPut k (.tup u) b7)) e x (.inl (iz rfl (by (repeat intro _);contradiction) (by (repeat intro _);contradiction))) P
    exact I _ _ C G F
inductive TA (B:Base) (h:vX):Flow->Fl->Prop where
 |next:TA B h .next .next
 |brk:TA B h .brk .brk
 |ret {v:eH} {x:AV}:RV B h v x->TA B h (.ret v) (.ret x)
noncomputable def Cw (B:Base) (env:zw) (ns:gm) (st:AS) (s:eL) (Q:Fl->MM->AS->Prop) (f:Flow) (s':eL):Prop:=
 ∃fl m' st',TA B s'.heap f fl/\FR B env ns m' st' s'/\R B st' s'/\zG B env ns st s st' s'/\Q fl m' st'
noncomputable def Oj (B:Base) (st:AS) (s:eL) (I:gX):Prop:=∀o,s.heap.get? I=some o->ic B st I
noncomputable def SS (B:Base) (n:Nat) (ns:gm) (c:zu) (code:CS):Prop:=∀(A:jc) (env:zw) (m:MM) (st:AS) (s:eL) (Q:Fl->MM->AS->Prop),
 mO n A->FR B env ns m st s->R B st s->VS PG (eE PG n) code m st Q->WE B A (exec c env) (Cw B env ns st s Q) s
noncomputable def O5 (B:Base) (n:Nat) (ns:gm) (cs:List zu) (code:w'):Prop:=∀(A:jc) (env:zw) (m:MM) (st:AS) (s:eL) (Q:Fl->MM->AS->Prop),
 mO n A->FR B env ns m st s->R B st s->jo PG (eE PG n) code m st Q->WE B A (execs cs env) (Cw B env ns st s Q) s
noncomputable def SU (B:Base) (n:Nat) (ns:gm) (e:gc) (c:CE):Prop:=∀(A:jc) (env:zw) (m:MM) (st:AS) (s:eL) (Q:AV->AS->Prop) (P:Unit->eL->Prop) (u:eH->Ox Unit),
 mO n A->FR B env ns m st s->R B st s->VE PG (eE PG n) c m st Q->
 (∀v x st' s',RV B s'.heap v x->R B st' s'->St B st s st' s'->Q x st'->WE B A (u v) (λ_ s''=>(∀b o,s'.heap.get? b=some o->Oj B st s b->¬ic B st' b->s''.heap.get? b=some o)/\
  ∀I s3,vN I s'' s3->Oj B st s I->¬ic B st' I->(∀o,s''.heap.get? I=some o->¬f' o)->P () s3) s')->
 WE B A (evalThenUse e env u) P s
variable {ag:Fl->MM->AS->Prop}
theorem Cw.trans {f:Flow} (y:zG c ab v b m q ae) (F:FR c ab v e q ae) (p:Cw c ab v q ae ag f aZ):Cw c ab v b m ag f aZ:=
 oU p λg k l a j h d i=>(gB g k l a j h (y.trans F d) i)
theorem O6:O5 c a v [] .nil:=λA d m b s Q e F r h=>Ez (gB .next m b .next F r .refl h)
variable {bQ:List zu} {ah:w'}
theorem Ma {t:zu} {o:CS} (y:SS c a v t o) (w:O5 c a v bQ ah):O5 c a v (t::bQ) (.cons o ah):=λA l m u s Q n F r h=>
 wpAny_execs_cons (el (y A l m u s _ n F r h) (λf B x=>oU x λC j k z b g i d=>by
  induction z with
  |next=>exact el (w A l j k B Q n b g d) (λ_ _ p=>p.trans i b) λ_ _ e=>e
  |brk=>exact gB .brk j k .brk b g i d
  |ret q=>exact (gB (.ret _) j k (.ret q) b g i d)) λ_ _ e=>e)
theorem Rl (k:SE c a v a0 g):SS c a v (.Return (some a0) aa) (.ret g):=λA d m i s Q j F r h=>
 wpAny_Return_some (fZ (k A d m i s _ j F r h) (λp o x n e l b f=>(gB (.ret x) m n (.ret e) (F.step r b) l b.toF f)))
theorem O7:SS c a v (.Return none aa) (.ret (.cst .none)):=λA d m b s Q e F r h=>wpAny_Return_none (gB (.ret .none) m b (.ret .none) F r .refl h)
theorem Rm:SS c a v (.Break aa) .brk:=λA d m b s Q e F r h=>wpAny_Break (gB .brk m b .brk F r .refl h)
variable {bg:w'}
theorem TB {b:List zu} (o:ST c a v a0 g) (t:O5 c a v bQ ah) (u:O5 c a v b bg):SS c a v (.If a0 bQ b aa) (.iff g ah bg):=λA f m q s Q i F r h=>
 wpAny_If (q0 (o A f m q s _ i F r h) (λa0 l n k d j=>by
  induction a0 with
  |true=>exact el (t A f m n l _ i (F.step r d) k j) (λ_ _ p=>p.trans d.toF (F.step r d)) λ_ _ e=>e
  |false=>exact el (u A f m n l _ i (F.step r d) k j) (λ_ _ p=>p.trans d.toF (F.step r d)) λ_ _ e=>e))
theorem TC (o:Ip a0=true) (e:SE c a v a0 g):SS c a v (.Expr a0 aa) (.ex g):=λA f m j s Q d F r h=>
 wpAny_Expr_any (fZ (e A f m j s _ d F r h) (λq p x l n k b i=>(gB .next m l .next (F.step r b) k b.toF i)))
  (by unfold interactive;rw [F.ok.kind];rfl) (by clear e d F r h;rcases a0 with ⟨⟩<;>first |rfl |contradiction)
theorem uG (h:xb a0=true) (a:zw) (x:eH):Sa a0 a x=pure x:=by
 rcases a0 with ⟨⟩<;>first |rfl |contradiction
noncomputable def TF (n:Nat) (it:It) (tg:List Nat) (b:w') (Q:Fl->MM->AS->Prop) (xs:List AV):MM->AS->Prop:=
 xs.foldr (λx k m st=>it.ok st/\∃m',jN tg x m=some m'/\jo PG (eE PG n) b m' st λfl m st=>(match fl with | .next=>k m st | .brk=>Q .next m st | .ret v=>Q (.ret v) m st))
 (λm st=>it.ok st/\Q .next m st)
theorem Hk (I:Nat->eL->Prop) (l:∀n m,I n m->WE c L (UY J) (λr j=>match r with |none=>bG (.ok .next) j |some v=>WE c L (rT a0 J v) (λ_ i=>WE c L (x8 a0 ab v) (λ_ p=>WE c L (execs bQ ab) (λf g=>match f with | .next | .cont=>∃o,o<n/\I o g | .brk=>bG (.ok .next) g | .ret v=>bG (.ok (.ret v)) g) p) i) j) m) (n:Nat) (h:I n m):sr (hJ c.prog c.w) L (.forLoop a0 J bQ [] ab) bG m:=by
 refine codeAny_loop' rfl I (λn m k=>?_) n h
 show f_ _ _ ((forTurn a0 J bQ [] ab).onRaise (λx=>do Sz x ab;Uk x)) _ _ m
 refine Yr ?_
 simp only [forTurn]
 refine b5 (mL (b5 (wpAny_onRaise (el (l n m k) (λr j e=>?_) λ_ _ a=>a.elim))))
 clear l h k;induction r using d7 with
 |none=>exact dj (.inr ⟨rfl,codeAny_block (Ez e)⟩)
 |some v=>
  refine b5 (el e (λ_ i b=>?_) λ_ _ a=>a.elim)
  refine b5 (el b (λ_ i b=>b5 (el b (λf p d=>?_) λ_ _ a=>a.elim)) λ_ _ a=>a.elim)
  clear e b;clear b;induction f using Flow.casesOn with
  |next=>exact dj (.inl ⟨rfl,d⟩)
  |cont=>exact dj (.inl ⟨rfl,d⟩)
  |brk=>exact dj d
  |ret v=>exact dj d
variable {dq:List h}
theorem drop_cons (c:dq[a]? =some dp):dq.drop a=dp::dq.drop (a+1):=by
 obtain ⟨b,rfl⟩:=ew.mp c
 exact fP b
theorem zG.Rn (y:zG c ab v b m q ae) (a:vN z ae aZ) (g:∀o,m.heap.get? z=some o->¬ic c b z->False):zG c ab v b m q aZ:=
 ⟨λd o e f w=>a.keep d o (λh=>by clear y a w;subst h;exact g o e f) (y.keep d o e f w),y.foot⟩
theorem FR.Ff (F:FR c ab v e b m) (h:m.heap.get? z=none):ab.locals≠z/\(∀x a,ab.cells.lookup x=some a->a≠z)/\¬Own v ab z:=by
 have i:ab.locals≠z:=λq=>by
  refine wZ F.BQ λf o _ _ k _=>?_
  rw [q,h] at k;contradiction
 have g:∀x a,ab.cells.lookup x=some a->a≠z:=λx a d q=>by
  refine oH (F.Du x a d) λ_ _ n o j _=>?_
  rw [q,h] at j;contradiction
 exact iz i g (λw=>w.elim (λq=>i q.symm) λl=>eS l λx _ d=>g x z d rfl)
theorem Oj.Ff (F:FR c ab v e b m) (h:Oj c b m z):ab.locals≠z/\(∀x a,ab.cells.lookup x=some a->a≠z)/\¬Own v ab z:=by
 have i:ab.locals≠z:=λq=>by
  refine wZ F.BQ λf o _ _ k _=>?_
  exact F.E0.1 (by rw [q];exact h o (q▸k))
 have g:∀x a,ab.cells.lookup x=some a->a≠z:=λx a d q=>by
  refine oH (F.Du x a d) λn _ p o j _=>?_
  exact n (by rw [q];exact h o (q▸j))
 exact iz i g (λw=>w.elim (λq=>i q.symm) λl=>eS l λx _ d=>g x z d rfl)
theorem Oj.h0 (r:R c b m) (h:Oj c b m z):c.h₀.get? z=none:=by
 induction e:c.h₀.get? z with
 |none=>rfl
 |some o=>rw [r.new z (h o (r.old z o e))] at e;contradiction
theorem Oj.of (y:St c b m q ae) (h:ae.heap.get? z=none):Oj c b m z:=λo e=>gg λa=>by rw [y.keep _ _ e a] at h;contradiction
theorem Ro (HB:gU c) (ht:Am v a0=some C) (hc:xb aH=true) (hi:SE c a v aH g) (hb:O5 c a v bQ ah):
 SS c a v (.For a0 aH bQ [] aa) (.kg C g ah):=λkx t m V s Q G F r h=>by
 refine wpAny_For (fZ (hi kx t m V s _ G F r h) (λlh lj x kH qv n O kK=>?_)) (uG hc t)
 refine el (wc HB n qv kK) (λiv lq j=>?_) λ_ _ e=>e.elim
 refine oU j λI S i e P J kO kP=>?_
 subst e
 have ku:=F.step r O
 refine mV (ku.Ff J) λZ X kJ=>?_
 have kT:¬ic c kH I:=λf=>by refine eS (n.oC f) λo e _=>?_;rw [J] at e;contradiction
 have kq:c.h₀.get? I=none:=by
  induction e:c.h₀.get? I using d7 with
  |none=>rfl
  |some o=>rw [n.old I o e] at J;contradiction
 have U:∀o,s.heap.get? I=some o->¬ic c V I->False:=λo e f=>by rw [O.keep I o e f] at J;contradiction
 refine Hk (c:=c) (L:=kx) (ab:=t) (λk p=>∃aH N d,k=i.length -aH/\FR c t v N d p/\R c d p/\zG c t v V s d p/\wK c p.heap I S i aH/\¬ic c d I/\TF a S C ah Q (i.drop aH) N d)
  ?_ i.length ⟨0,m,kH,rfl,(ku.step n (.grow P)),(n.grow P),(O.trans (.grow P)).toF,kO,kT,kP⟩
 intro k p kN;refine EL k kN λaH N d F' D y' K E y=>?_
 have H:∀o,p.heap.get? I=some o->¬f' o:=λo e=>by refine eS K.nf λo' e' nf=>?_;rw [e] at e';obtain rfl:=d3 e';exact nf
 induction z:i[aH]? using d7 with
 |none=>
  rw [pD (by simpa using z)] at y
  refine iK y λL u=>?_
  refine el (K.done D L G.handled z) (λkX kY j=>?_) λ_ _ e=>e
  refine iK j λe b=>?_
  subst e
  exact gB .next N d .next (F'.but b Z X H) (D.but b E kq H) (y'.Rn b U) u
 |some x=>
  rw [drop_cons z] at y
  refine iK y λL u=>?_
  refine el (K.next D L z) (λkX kY j=>?_) λ_ _ e=>e
  refine r5 j λw e b kG qw=>?_
  subst e
  have kn:=F'.but b Z X H
  have kD:=D.but b E kq H
  have kM:=y'.Rn b U
  refine za kG a0 w ?_
  refine eS u λkW kF u=>?_
  refine DB kn kD G.handled ht kF qw λkQ W kC kz=>?_
  refine el (hb kx t kW d kQ _ G W kC u) (λf lg j=>?_) λ_ _ e=>e
  refine oU j λfl Y T kZ kB ky M kl=>?_
  have km:=(kM.trans kn kz).trans W M
  clear HB ht hc hi hb G F r h qv n O kK P J kO kP ku Z X kT kq U kN F' D y' K H y L b qw kM kF u j;induction kZ using TA.casesOn with
  |next=>
   have kI:wK c kQ.heap I S i (aH+1):=kG.mono (kz.frozen kD kn) λo e=>kz.keep I o e E kJ
   have kV:wK c lg.heap I S i (aH+1):=kI.mono (M.frozen kC W) λo e=>M.keep I o e E kJ
   have kU:=(ew.mp z).1
   refine ⟨(i.length - (aH+1)),(by exact i3 kU (fG _)),(aH+1),Y,T,rfl,kB,ky,km,kV,(λf=>(M.foot I f).elim E λl=>?_),kl⟩
   refine eS kI.nf λo e _=>?_
   rw [l] at e;contradiction
  |brk=>exact gB .next Y T .next kB ky km kl
  |ret q=>exact gB (.ret _) Y T (.ret q) kB ky km kl
theorem DC (I:Nat->eL->Prop) (k:∀n m,I n m->WE c L (GQ a0 ab (vV a0 ab)) (λb d=>if b then WE c L (execs bQ ab) (λf g=>match f with | .next | .cont=>∃i,i<n/\I i g | .brk=>bG (.ok .next) g | .ret v=>bG (.ok (.ret v)) g) d else bG (.ok .next) d) m) (n:Nat) (h:I n m):sr (hJ c.prog c.w) L (.whileLoop a0 bQ [] ab) bG m:=by
 refine codeAny_whileLoop I (λn m j=>el (k n m j) (λb d a=>?_) λ_ _ e=>e.elim) n h
 induction b with
 |false=>simp only [fW,if_false] at a⊢;exact Ez a
 |true=>simp only [if_true] at a⊢;exact el a (λ_ _ q=>q) λ_ _ e=>e.elim
theorem Mb (K:ST c a v a0 g) (P:O5 c a v bQ ah):SS c a v (.While a0 bQ [] aa) (.ET g ah):=λx j m b s Q w F r h=>by
 refine j_ h λk h=>?_
 refine wpAny_While ?_
 refine DC (c:=c) (L:=x) (ab:=j) (λk l=>∃i d,FR c j v i d l/\R c d l/\zG c j v b s d l/\
  N3 (motive:=λ_=>MM->AS->Prop) (λ_ _=>False)
   (λ_ k m b=>VT PG (eE PG a) g (VE PG (eE PG a) g) m b λa0 b=>if a0 then jo PG (eE PG a) ah m b λN m b=>(match N with | .next=>k m b | .brk=>Q .next m b | .ret U=>Q (.ret U) m b) else Q .next m b) k i d)
  ?_ k (pf m b F r .refl h)
 intro k l L;refine nV L λi d o J S p=>?_
 clear F r h L;induction k using ji with
 |zero=>exact p.elim
 |succ k=>
  refine q0 (K x j i d l _ w o J p) (λa0 W T C D u=>?_)
  have n:=o.step J D
  have z:=S.trans o D.toF
  induction a0 with
  |false=>exact gB .next i T .next n C z u
  |true=>
   refine el (P x j i T W _ w n C u) (λf X M=>?_) λ_ _ e=>e
   refine oU M λN H I V y E O G=>?_
   have t:=z.trans n O
   clear K P w o J S p C D n z u M O;induction V with
   |next=>exact ⟨k,(fG _),H,I,y,E,t,G⟩
   |brk=>exact gB .next H I .next y E t G
   |ret q=>exact gB (.ret _) H I (.ret q) y E t G
noncomputable def DD (e:gc):Bool:=e.ctorIdx==8
noncomputable def notName (e:gc):Bool:=!(e.ctorIdx==23)
theorem pX (c:xb a0=true) (b:notName aH=true) (a:Nat):vy a0 (some aH) a ab=pure false:=by
 rcases a0 with ⟨⟩<;>first |rfl |contradiction |(cases aH<;>first |rfl |contradiction)
theorem Hl (e:xb a0=true) (x:j7) (p:EB) (b:Nat):vy a0 (some (.Name x p)) b ab=pure false\/(DD a0=true/\vy a0 (some (.Name x p)) b ab=pure true):=by
 induction a0 using ue with
 |ListComp g f c d=>
  induction a:(ab.blockKind==.function&&ab.kindOf x==some .local&&p.line==d.line&&!(c.names.any λ(n,k)=>n==x&&(k==.local||k==.cell))) using j5 with
  |false=>exact .inl (by unfold vy;exact congrArg pure a)
  |true=>exact .inr ⟨rfl,by unfold vy;exact congrArg pure a⟩
 |SetComp=>contradiction
 |DictComp=>contradiction
 |_=>exact .inl rfl
theorem Rp (E:oj v ao=some d) (M:xb a0=true) (O:SE c a v a0 g) (R:DD a0=true->SU c a v a0 g):SS c a v (.Assign [.Name ao aa] a0 b9) (.asg d g):=λA e m i s Q G F r h=>by
 rcases Hl (ab:=e) M ao aa b9.line with t |⟨J,t⟩
 .refine wpAny_Assign_Name (fZ (O A e m i s _ G F r h) (λz U y D n x j p=>?_)) t
  have f:=F.step r j
  exact pN f x E n λL u B k=>gB .next _ D .next u B (j.toF.trans f k) p
 .rw [exec_Assign_Name_used _ _ _ _ t]
  refine b5 (mL (b5 ?_))
  refine el (R J A e m i s (λz i=>Q .next (m.set d (some z)) i) (λ_ T=>Cw c e v i s Q .next T) (x8 (.Name ao aa) e) G F r h ?_) (λ_ _ q=>dj q) λ_ _ a0=>a0
  intro z y D U n x j p
  have f:=F.step r j
  refine UC (pN f x E n λL u B k=>⟨λb o a0 K w=>k.keep b o a0 w (K.Ff F).2.2,λI V C l S H=>?_⟩)
  refine mV (l.Ff F) λP N _=>?_
  exact gB .next _ D .next (u.but C P N H) (B.but C S (l.h0 r) H) ((j.toF.trans f k).Rn C (λo a0 w=>w (l o a0))) p
theorem JT:∀{l:List Nat} {a:List AV} {i:Nat} {x:AV},i∉l->pE (e.set i (some x)) l a=(pE e l a).set i (some x):=by
 intro l
 induction l generalizing e with
 |nil=>intro a i x _;rfl
 |cons j l d=>
  intro a i x b
  induction a using ej with
  |nil=>rfl
  |cons y c=>
   have f:i≠j:=λg=>b (g▸.head _)
   show pE ((e.set i (some x)).set j (some y)) l c=(pE (e.set j (some y)) l c).set i (some x)
   rw [List.set_comm _ _ f,d λh=>b (.tail _ h)]
theorem DE:∀{l c:List Nat} {a b:List AV},l.length=a.length->pE e (l++c) (a++b)=pE (pE e l a) c b:=by
 intro l
 induction l generalizing e with
 |nil=>intro c a b h;induction a using ej with
  |nil=>rfl
  |cons _ _=>contradiction
 |cons j l d=>intro c a b h;induction a using ej with
  |nil=>contradiction
  |cons x a=>exact d (by simpa using h)
theorem JU:∀{l:List Nat} {a:List AV},l.length=a.length->l.Nodup->pE e l.reverse a.reverse=pE e l a:=by
 intro l
 induction l generalizing e with
 |nil=>intro a h _;induction a using ej with
  |nil=>rfl
  |cons _ _=>contradiction
 |cons j l d=>
  intro a h b
  induction a using ej with
  |nil=>contradiction
  |cons x a=>
   rw [eT] at b
   have c:l.length=a.length:=by simpa using h
   rw [nI,nI,DE (by simp [c]),d c b.2]
   show (pE e l a).set j (some x)=pE (e.set j (some x)) l a
   rw [JT b.1]
theorem JV:∀{j:List j7} {l:List Nat} {d:List eH} {a:List AV} {m:MM} {s:eL},j.map (oj v)=l.map some->FR c ab v m b s->R c b s->hU c s.heap d a->a.length=l.length->
 ∀{Q:Unit->eL->Prop},(∀f,FR c ab v (pE m l a) b f->R c b f->zG c ab v b s b f->Q () f)->WE c L (rq (j.map λx=>U1 ab x) d) Q s:=by
 intro w
 induction w with
 |nil=>
  intro l d a m s e F r q g Q h
  have:l=[]:=by simpa using e.symm
  clear e;subst this
  have:a=[]:=gT.mp g
  clear g;subst this;cases q
  exact dj (h s F r .refl)
 |cons x j o=>
  intro l d a m s e F r q g Q h
  induction l using ej with
  |nil=>simp at e
  |cons i l=>
   simp only [eG,ix] at e
   induction a using ej with
   |nil=>contradiction
   |cons y a=>
    cases q with
    | @cons C _ d _ p t=>
     show WE c L (do yR d (U1 ab x C);rq (j.map λx=>U1 ab x) d) Q s
     refine b5 (f5 (bindName_ (pN F r e.1 p λf k A n=>?_)))
     exact o e.2 k A (t.Cu r F n) (by simpa using g) λu B D z=>h u B D (n.trans k z)
theorem hU.reverse (r:hU c H aj j):hU c H aj.reverse j.reverse:=r.rev
theorem BV {f:h->Option t}:∀{l:List h},(l.filterMap f).length<=l.length/\((l.filterMap f).length=l.length->l.map f=(l.filterMap f).map some):=by
 intro j
 induction j with
 |nil=>
  exact ⟨eJ _,λ_=>rfl⟩
 |cons a l g=>
  refine iK g λd i=>?_
  induction e:f a with
  |none=>
   rw [qT,e]
   refine ⟨fY d,λc=>?_⟩
   have:(l.filterMap f).length=l.length+1:=c
   exact absurd d (x9.mpr (EO (fG _) this))
  |some b=>
   rw [qT,e]
   refine ⟨fg d,λc=>?_⟩
   have c:(l.filterMap f).length=l.length:=by simpa using c
   rw [eG,eG,e,i c]
theorem Mc {f:gc->Option j7} (e:∀t z,f t=some z->EU t=some z) (d:(az.filterMap f).length=az.length):az.map EU=(az.filterMap f).map some:=by
 have:=(BV (l:=az)).2 d
 rw [<-this]
 apply fk
 intro t c
 have b:f t∈az.map f:=ck.mpr (ei t c rfl)
 rw [this] at b
 refine eS (ck.mp b) λz _ a=>?_
 rw [<-a]
 exact e t z a.symm
theorem vO (h:EV (.Tuple az a aa) a0=true):
 rp [.Tuple az a aa] a0 ab=pure none\/∃b,rp [.Tuple az a aa] a0 ab=pure (some b)/\b.length=az.length/\az.map EU=b.map some:=by
 have r:∀c f j,a0= .Tuple c f j->rp [.Tuple az a aa] a0 ab=pure none\/∃b,rp [.Tuple az a aa] a0 ab=pure (some b)/\b.length=az.length/\az.map EU=b.map some:=by
  intro c f j q;subst q
  have g:(c.any λa0=>!GS 8 a0)=true:=h
  have i:c.all (GS 8)=false:=by
   rw [EF,jM,qb]
   refine eS (qb.mp g) λx n s=>?_
   exact ei x n s
  unfold rp
  dsimp only
  split
  .exact .inl rfl
  .split
   .exact .inl rfl
   .rename_i m l
    generalize k:vJ _ az=b
    split
    .exact .inl rfl
    .split
     .exact .inl rfl
     .rename_i e o
      rw [i]
      have d:b.length=az.length:=by
       simp only [j1,bne_iff_ne,ne_eq,not_or,WG] at e
       exact e.1
      refine .inr (gq b rfl d ?_)
      rw [<-k] at d⊢
      refine Mc (λt z p=>?_) d
      clear k d m l e o g i
      rcases t with ⟨⟩<;>first |contradiction |skip
      exact (Lu p).2▸rfl
 clear h;rcases a0 with ⟨⟩<;>first |exact r _ _ _ rfl |exact .inl rfl
theorem Fg:∀{c:List gc} {l:List Nat} {a:List j7},uy v c=some l->c.map EU=a.map some->a.map (oj v)=l.map some:=by
 intro k
 induction k with
 |nil=>
  intro l a h b
  (injection h with h;subst h)
  have:a=[]:=by simpa using b.symm
  clear b;subst this;rfl
 |cons e r d=>
  intro l a h b
  obtain ⟨x,p,i,n,j,m,rfl,rfl⟩:=th h
  induction a using ej with
  |nil=>simp at b
  |cons y o=>
   injection b with g f
   exact congr (congrArg Oa (d3 g▸j)) (d m f)
theorem Fh (a:SK m.heap.objs.size m.heap H):fH m {m with heap:=H}:=qA λb o e=>a b o (λz=>by subst z;rw [ik] at e;contradiction) e
theorem O8 (p:uy v az=some C) (z:2<=C.length) (S:C.Nodup) (K:EV (.Tuple az d aa) a0=true) (L:xb a0=true) (M:SE c a v a0 g):
 SS c a v (.Assign [.Tuple az d aa] a0 b9) (.ta C g):=λA k m T s Q H F r h=>by
 have w:VQ [.Tuple az d aa] a0 b9.line k=pure false:=show vy a0 (some (.Tuple az d aa)) b9.line k=pure false from pX L rfl _
 have km:=Cv p
 have I:=M A k m T s _ H F r h
 rcases vO (ab:=k) K with f |⟨ky,f,hl,U⟩
 .refine Wy (el I (λN kl J=>?_) λ_ _ a0=>a0) w f
  obtain ⟨y,E,G,j,e,b⟩:=J
  obtain ⟨D,P,rfl,o,b⟩:=b
  .·refine DB (F.step r e) j H.handled (a0:=.Tuple az d aa) (C:=C) ?_ o G λku n Z X=>gB .next P E .next n Z (e.toF.trans (F.step r e) X) b.2
    show (uy v az).bind _=_;rw [p];exact if_pos z
 .refine Assign_Tuple_swapped (el I (λN kl J=>?_) λ_ _ a0=>a0) w f
  obtain ⟨y,E,G,j,e,b⟩:=J
  refine jS b λD P x o b=>?_;subst x
  .·refine gi (wd z o) λkC B u x=>?_;subst x
    clear z K L M h w I o;(injection B with B;subst B)
    refine g0 N (iB G) λkB R k' W kz q=>?_
    have hz:R.size=D.length:=by rw [<-q.length,eB]
    have V:ky.length=R.size:=by rw [hl,hz,u,km]
    rw [V]
    refine unpackItems_tuple H.handled (sZ _ W rfl _ rfl) λh' f=>?_
    have i:=Fh f
    have kn:=F.step r e
    have n:=kn.step j (.grow i)
    have kx:=Fg p U
    refine JV (l:=C.reverse) (a:=D.reverse) (by rw [p9,p9,kx]) n (j.grow i) (q.grow i).reverse (by simpa using u) λku O Y kq=>?_
    rw [JU (by simpa using u.symm) S] at O
    exact gB .next _ E .next O Y ((e.trans (.grow i)).toF.trans n kq) b.2
theorem O9 (E:gU c) (o:AT[d]? =some ao) (w:xb aH=true) (x:SE c a v aH D) (n:SE c a v a0 g):
 SS c a v (.Assign [.Attribute a0 ao aa] aH b9) (.iA g d D):=λA e m u s Q f F r h=>
 plainObj_wpAny_Assign_Attribute (fZ (x A e m u s _ f F r h) (λM H y J p i k q=>fZ (n A e m J H _ f (F.step r k) i q) (λO K z N G C j b=>by
  induction b with
  |mk I b=>
   obtain rfl:=gM G
   refine uD E C I o (p.step i j) λL B t=>?_
   have l:=(k.trans j).trans t
   exact (gB .next m _ .next (F.step r l) B l.toF b)))) (pX w rfl _)
theorem zb (h:WE c L (vV a0 ab) (λb a=>WE c L (setAttr b ao J) bq a) m):WE c L (x8 (.Attribute a0 ao aa) ab J) bq m:=by
 rw [assign_Attribute]
 refine b5 (f5 (el h (λb a d=>b5 (mL (b5 (f5 (el d (λ_ g f=>wpAny_release f) λ_ _ e=>e))))) λ_ _ e=>e))
theorem Md (w:gU c) (B:AT[d]? =some ao) (R:AT[o]? =some cB) (E:EV (.Tuple [.Attribute a0 ao aa,.Attribute aH cB b9] I cG) aW=true) (G:xb aW=true) (H:SE c a v aW aL) (N:SE c a v a0 g) (J:SE c a v aH D):
 SS c a v (.Assign [.Tuple [.Attribute a0 ao aa,.Attribute aH cB b9] I cG] aW cV) (.ES g d D o aL):=λA b m U s Q f F r h=>by
 have C:VQ [.Tuple [.Attribute a0 ao aa,.Attribute aH cB b9] I cG] aW cV.line b=pure false:=show vy aW (some (.Tuple [.Attribute a0 ao aa,.Attribute aH cB b9] I cG)) cV.line b=pure false from pX G rfl _
 have e:rp [.Tuple [.Attribute a0 ao aa,.Attribute aH cB b9] I cG] aW b=pure none:=by
  rcases vO (ab:=b) E with e |⟨kB,e,hl,V⟩
  .exact e
  .clear w B R E G H N J f F r h C e;induction kB using ej with
   |nil=>contradiction
   |cons y ys=>(injection V;contradiction)
 refine Wy (fZ (H A b m U s _ f F r h) (λkl kG y km qv Y kx l=>?_)) C e
 obtain ⟨v1,v2,rfl,l⟩:=l
 .refine g0 kl (iB qv) λt ky k' Z kC q=>?_
  have hz:ky.size=2:=by rw [<-eB,q.length];rfl
  refine QQ f.handled (sZ _ Z rfl _ rfl) (by rw [hz];rfl) rfl λh' e=>?_
  have i:=Fh e
  have k:=Y.grow i
  have W:=q.grow i
  refine jS W.two λw1 n e' q1 q2=>?_
  rw [e']
  have P:=kx.trans (Ex i)
  have kn:=F.step r P
  show WE c A (do yR [n] (x8 (.Attribute a0 ao aa) b w1);rq [x8 (.Attribute aH cB b9) b] [n]) _ _
  refine b5 (f5 (zb (fZ (N A b m km _ _ f kn k l) (λov kH z kF x L j u=>?_))))
  induction u using xa.casesOn with
  |mk e1 u=>
   obtain rfl:=gM x
   refine uD w L e1 B (q1.step k j) λku K O=>?_
   show WE c A (do yR [] (x8 (.Attribute aH cB b9) b n);rq [] []) _ _
   have M:=(P.trans j).trans O
   refine b5 (f5 (zb (fZ (J A b m _ ku _ f (F.step r M) K u) (λov kJ z kD x X T p=>?_))))
   induction p using xa.casesOn with
   |mk e2 p=>
    obtain rfl:=gM x
    refine uD w X e2 R (((q2.step k j).step L O).step K T) λkI kz kq=>?_
    have S:=(M.trans T).trans kq
    exact dj (gB .next m _ .next (F.step r S) kz S.toF p)
theorem O' (L:gU c) (B:xb aW=true) (E:SE c a v aW aL) (o:SE c a v a0 g) (p:SE c a v aH D):
 SS c a v (.Assign [.Subscript a0 aH aa] aW b9) (.t7 g D aL):=λA d m f s G b F r h=>
 KY (fZ (E A d m f s _ b F r h) (λV O y P q l j t=>fZ (o A d m P O _ b (F.step r j) l t) (λY x z K M k i J=>
  fZ (p A d m K x _ b (F.step r (j.trans i)) k J) (λW U u S R H e C=>by
   refine Fe L b H (Q:=λf=>G .next m f) (M.step k e) R ((q.step l i).step k e) C λT X w N I=>?_
   have n:=((j.trans i).trans e).trans N
   exact (gB .next m _ .next (F.step r n) w n.toF I))))) (pX B rfl _)
variable {cX:CE}
theorem O_ {e:gc} (P:xb e=true) (S:SE c a v e cX) (X:SE c a v a0 g) (hl:SE c a v aH D) (W:SE c a v aW aL):
 SS c a v (.Assign [.Subscript a0 (.Slice (some aH) (some aW) none b9) aa] e cG) (.Lv g D aL cX):=λA p m st s Q i F r h=>
 KY (fZ (S A p m st s _ i F r h) (λkJ kz y kB qv T j kl=>fZ (X A p m kB kz _ i (F.step r j) T kl) (λov kD z ky qo V o kn=>
  Ou (fZ (hl A p m ky kD _ i (F.step r (j.trans o)) V kn) (λlv kF x3 ku ql C G km=>fZ (W A p m ku kF _ i (F.step r ((j.trans o).trans G)) C km) (λuv kq x4 kK qu N M kG=>by
   rw [Jq]
   refine dj ?_
   have w:=jw kq {cls:=.type "slice",data:=.fields #[lv,uv,.none]}
   have u:=N.grow w
   have Z:=(((j.trans o).trans G).trans M).trans (Ex w)
   clear S X hl W i h T j kl V o kn G km N w;induction kG using Q9.casesOn with
   | @mk ra rb l q d kx J R h1 U x H E O=>
    obtain rfl:=gM qo
    obtain rfl:=gM qv
    obtain ⟨kI,rfl⟩:=gn (ql.step C M)
    obtain ⟨t',rfl⟩:=gn qu
    refine gp (u.isList J) λb k B K l1 _ I=>?_
    refine gp (u.isList R) λn k' g2 q2 l2 _ Y=>?_
    refine AB B g2 h1 (tH ..) U x (by exact Vb H I) (by exact ad E I Y) ?_
    have e0:(b.extract 0 l.toNat++n++b.extract q.toNat b.size).toList=b.toList.take l.toNat++n.toList++b.toList.drop q.toNat:=by
     clear P F r C M J R h1 U x H E O qo qv ql qu u Z B K l1 I g2 q2 l2 Y;obtain ⟨L⟩:=b
     obtain ⟨L'⟩:=n
     simp [List.extract,mZ]
    obtain ⟨kC,kH⟩:=u.zU (t:=(kq.toks)) (f:=λd=>d.extract 0 l.toNat++n++d.extract q.toNat d.size) J B (ys:=d.take l.toNat++kx++d.drop q.toNat) (by
     rw [e0];exact ((K.take _).append q2).append (K.drop _)) (by simp only [bh,fR,ey];exact V8 (Lc x) H E)
    have y':=Z.trans kH
    exact (gB .next m _ .next (F.step r y') kC y'.toF O))))))) (pX P rfl _)
theorem jT (a:(v.map (·.1)).Nodup) {k:vA}:h_ v ao=some k↔(ao,k)∈v:=by
 induction v with
 |nil=>exact ⟨(by intros;contradiction),(by intros;contradiction)⟩
 |cons p r b=>
  obtain ⟨y,j⟩:=p
  rw [eG,eT] at a
  rw [tf]
  by_cases h:ao=y
  .subst h
   rw [if_pos rfl]
   simp only [jK,eK,BI,true_and]
   exact ⟨λe=>.inl e.symm,λe=>e.elim rH λc=>absurd (ck.mpr (ei _ c rfl)) a.1⟩
  .rw [if_neg h,b a.2]
   simp [h]
theorem BW:te=("__classdict__":j7):=by unfold te;decide+kernel
variable {aJ:En}
theorem q7 (h:Ao aJ=true):aJ.kind= .function/\aJ.isGenerator=false/\aJ.isCoroutine=false/\(aJ.names.map (·.1)).Nodup/\aJ.names.lookup ("__classdict__":j7)=none:=by
 unfold Ao at h
 simp only [eV,decide_eq_true_eq,fK] at h
 refine iK h λa c=>?_;refine iK a λa b=>?_;refine iK a λa f=>?_;refine iK a λg d=>?_
 refine ⟨g,d,f,b,?_⟩
 rw [<-sA]
 induction e:h_ aJ.names ("__classdict__":j7) with
 |none=>rfl
 |some k=>
  have i:=(jT b).mp e
  have:te∈aJ.names.map (·.1):=(ck.mpr (ei _ i BW.symm))
  exact absurd this (of_decide_eq_false c)
theorem DF (h:Dp aJ=true):Ao aJ=true/\BN aJ.names=false:=by
 unfold Dp at h
 rw [eV,fK] at h;exact h
theorem uH:∀{b:gm},qZ v b=true->∀x,(x,fB)∈b->h_ v x=some .cell\/h_ v x=some .free:=by
 intro b h x a
 induction b with
 |nil=>exact (ee a).elim
 |cons p r c=>
  obtain ⟨y,k⟩:=p
  change (_&&qZ v r)=true at h
  rw [eV] at h
  rcases eK.mp a with e |a
  .clear a;cases (e)
   have h:(match h_ v x with |some .cell=>true |some .free=>true |_=>false)=true:=h.1
   induction q:h_ v x with
   |none=>rw [q] at h;contradiction
   |some k=>rw [q] at h;induction k using H8 with
    |cell=>exact .inl rfl
    |free=>exact .inr rfl
    |_=>contradiction
  .exact c h.2 a
noncomputable def qC (cells:List (j7×gX)):gm->List (j7×gX)->List (j7×gX)
 |[],acc=>acc
 |(x,k)::r,acc=>if k= .free then qC cells r ((x,(cells.lookup x).getD 0)::acc) else qC cells r acc
variable {cj:List (j7×gX)}
theorem tm:∀{j:gm} {c:List (j7×gX)} {b:j7},((b,fB)∈j->(qC cj j c).lookup b=some ((cj.lookup b).getD 0))/\((b,fB)∉j->(qC cj j c).lookup b=c.lookup b):=by
 intro m
 induction m with
 |nil=>
  intro c b
  exact ⟨λh=>(nomatch h),λ_=>rfl⟩
 |cons o r g=>
  intro c b
  obtain ⟨y,k⟩:=o
  by_cases l:k= .free
  .subst l
   rw [qC,if_pos rfl]
   refine iK (g (c:=(y,(cj.lookup y).getD 0)::c) (b:=b)) λf d=>?_
   refine ⟨λa=>?_,λa=>?_⟩
   .by_cases i:(b,fB)∈r
    .exact f i
    .rw [d i]
     rcases eK.mp a with e |a
     .clear g f d a i;(injection e with e;subst e);simp
     .exact absurd a i
   .have n:b≠y:=λe=>a (by rw [e];exact .head _)
    rw [d λq=>a (.tail _ q),eM,beq_false_of_ne n]
  .rw [qC,if_neg l]
   refine iK (g (c:=c) (b:=b)) λf d=>?_
   refine ⟨λa=>f ?_,λa=>d λq=>a (.tail _ q)⟩
   rcases eK.mp a with e |a
   .clear g f d a;cases (e);exact absurd rfl l
   .exact a
theorem Me:∀{d:gm} {a:List (j7×gX)},(∀x,(x,fB)∈d->∃c,ab.cells.lookup x=some c)->
 (forIn d a λ(p:j7×vA) (cs:List (j7×gX))=>if (p.2==fB)=true then (do let c <-YG ab p.1;pure (iN ((p.1,c)::cs))) else pure (iN cs):Ox (List (j7×gX)))=pure (qC ab.cells d a):=by
 intro j
 induction j with
 |nil=>
  intro a _
  exact rfl
 |cons l r g=>
  intro a h
  obtain ⟨x,k⟩:=l
  rw [qL]
  by_cases b:k= .free
  .subst b
   obtain ⟨c,i⟩:=h x (.head _)
   have e:YG ab x=pure c:=by unfold YG;rw [i]
   simp only [beq_self_eq_true,if_true,e,pure_bind]
   rw [g λy f=>h y (.tail _ f),qC,if_pos rfl,i];rfl
  .have:(k==fB)=false:=by simpa using b
   simp only [this,fW,if_false,pure_bind]
   rw [g λy f=>h y (.tail _ f),qC,if_neg b]
theorem vP (h:∀x,(x,fB)∈aJ.names->∃c,ab.cells.lookup x=some c):GU aJ ab=pure (qC ab.cells aJ.names []):=by
 have e:=Me (a:=[]) h
 unfold GU
 simp only [bind_pure]
 first
  |exact e
  |(rw [<-e];congr 1)
structure Made (ms:gm) (cl:List (j7×gX)) (s:eL) (L:gX) (cells:List (j7×gX)) (s':eL):Prop where
 grow:fH s s'
 fresh:s.heap.get? L=none
 BQ:s'.heap.Ns L (λ_=>none)
 old:∀x,(x,f6)∉ms->cells.lookup x=cl.lookup x
 own:∀x,(x,f6)∈ms->∃c,cells.lookup x=some c/\s.heap.get? c=none/\c≠L/\s'.heap.IsCell c none
 apart:∀x y c,(x,f6)∈ms->(y,f6)∈ms->cells.lookup x=some c->cells.lookup y=some c->x=y
theorem get?_none_of_le (a:H.objs.size<=z):H.get? z=none:=by
 induction e:H.get? z with
 |none=>rfl
 |some o=>exact absurd (rr e) (iY.mpr a)
theorem AD {Z:List (j7×eH)} {S:Option gX} {B:Option zw} {Q:zw->eL->Prop} (H:(aJ.names.map (·.1)).Nodup) (h:∀O n d,Made aJ.names cj m O n d->WE c L (forIn Z BJ λ(x:j7×eH) (_:PUnit)=>do Sx (vU aJ O z n ao S J B aV) x.1 x.2;pure (iN BJ)) (λ_ X=>Q (vU aJ O z n ao S J B aV) X) d):
 WE c L (GP aJ z cj Z ao S J B aV) Q m:=by
 unfold GP
 refine b5 (Yt ?_)
 generalize W:(if B.isSome=true then "dict" else "frame")=T
 have U:m.heap.get? m.heap.objs.size=none:=ik _
 generalize A:({m with heap:=m.heap.push {cls:=.type T,data:=.dict #[]}}:eL)=G
 have K:fH m G:=by rw [<-A];exact jw _ _
 have N:G.heap.Ns m.heap.objs.size (λ_=>none):=by rw [<-A];exact Heap.Ns.new ..
 have t:G.heap.objs.size=m.heap.objs.size+1:=by rw [<-A];exact rE ..
 refine b5 ?_
 refine qQ _
  (λY n d=>∃done,aJ.names=done++Y/\Made done cj m m.heap.objs.size n d/\G.heap.objs.size<=d.heap.objs.size/\∀x f,(x,f6)∈done->n.lookup x=some f->f<d.heap.objs.size) _ ?_ ?_ _ _
  (qV [] rfl ⟨K,U,N,λ_ _=>rfl,(by intros;contradiction),(by intros;contradiction)⟩ (eJ _) (by intros;contradiction))
 .intro kq Y n d V;obtain ⟨x,k⟩:=kq;refine r5 V λdone i M p s=>?_
  have P:=H
  rw [i,b_,eP] at P
  have km:∀j,(x,j)∉done:=λj hj=>P.2.2 x (ck.mpr (ei _ hj rfl)) x (by simp) rfl
  clear H h W U A K N P km;clear V;by_cases v:k= .cell
  .subst v
   simp only [beq_self_eq_true,if_true]
   refine b5 (Yt (dj ?_))
   have F:=jw d {cls:=.type "cell",data:=.cell none}
   have I:d.heap.objs.size≠m.heap.objs.size:=by exact oy (eh (EO (fG _) t) p)
   have R:m.heap.get? d.heap.objs.size=none:=get?_none_of_le (by exact a_ (eA (EO (fG _) t)) p)
   refine qV (done++[(x,.cell)]) (by rw [i];simp) ⟨M.grow.trans F,M.fresh,?_,λy a=>?_,λy a=>?_,λy l f a w C u=>?_⟩ ?_ (λy f a E=>?_)
   .exact M.BQ.push _
   .have b:y≠x:=λe=>a (by rw [e];simp)
    rw [eM,beq_false_of_ne b]
    exact M.old y λq=>a (by simp [q])
   .clear t p s i F;by_cases b:y=x
    .clear M a;subst b
     exact ⟨d.heap.objs.size,(by simp),R,I,_,(eW _ rfl),rfl⟩
    .have g:(y,f6)∈done:=by simpa [b] using a
     refine OH (M.own y g) λf h1 h2 h3 o kl=>iK kl λh4 h5=>?_
     exact ⟨f,(by rw [eM,beq_false_of_ne b];exact h1),h2,h3,o,(fm _ h4),h5⟩
   .clear t p i F I R;by_cases b:y=x
    .clear M a;by_cases r:l=x
     .rw [b,r]
     .subst b
      have D:(l,f6)∈done:=by simpa [r] using w
      rw [eM,beq_false_of_ne r] at u
      simp only [eM,beq_self_eq_true,jK] at C
      have:=s l f D u
      exact absurd C (oy this)
    .have g:(y,f6)∈done:=by simpa [b] using a
     rw [eM,beq_false_of_ne b] at C
     clear a b;by_cases r:l=x
     .clear M w;subst r
      simp only [eM,beq_self_eq_true,jK] at u
      have:=s y f g C
      exact absurd u (oy this)
     .have D:(l,f6)∈done:=by simpa [r] using w
      rw [eM,beq_false_of_ne r] at u
      exact M.apart y l f g D C u
   .show _<=(d.heap.push _).objs.size
    rw [rE];exact pK p
   .show _<(d.heap.push _).objs.size
    rw [rE]
    clear t M p i F I R;by_cases b:y=x
    .clear s a;subst b
     simp only [eM,beq_self_eq_true,jK] at E
     exact E▸fG _
    .have g:(y,f6)∈done:=by simpa [b] using a
     rw [eM,beq_false_of_ne b] at E
     exact jq (s y f g E)
  .have:(k==f6)=false:=by simpa using v
   simp only [this,fW,if_false]
   refine dj (qV (done++[(x,k)]) (by rw [i];simp) ⟨M.grow,M.fresh,M.BQ,λy a=>M.old y λq=>a (by simp [q]),λy a=>?_,λy l f a w=>?_⟩ p (λy f a=>?_))
   .have g:(y,f6)∈done:=by simpa [nz v] using a
    exact M.own y g
   .have g:(y,f6)∈done:=by simpa [nz v] using a
    have D:(l,f6)∈done:=by simpa [nz v] using w
    exact M.apart y l f g D
   .have g:(y,f6)∈done:=by simpa [nz v] using a
    exact s y f g
 .clear H W U A K N t;intro n d kn;refine r5 kn λdone i M _ _=>?_
  rw [eR] at i
  rw [<-i] at M
  have:=h _ n d M
  refine b5 (el ?_ (λ_ X q=>dj q) λ_ _ e=>e)
  clear h i M;rcases B with ⟨⟩<;>exact this
theorem R.kh (r:R c b m) (h:m.heap.get? z=none):¬ic c b z/\c.h₀.get? z=none:=by
 refine ⟨λf=>?_,?_⟩
 .refine eS (r.oC f) λo e _=>?_
  rw [h] at e;contradiction
 .induction e:c.h₀.get? z with
  |none=>rfl
  |some o=>rw [r.old z o e] at h;contradiction
theorem DG {T:List (j7×gX)} (r:R c b m) (B:(v.map (·.1)).Nodup) (M:Made v cj m z T ae) (l:zw) (hL:l.locals=z) (Y:l.cells=T) (G:l.scope.kind= .function) (hg:l.globals=iD) (hb:l.builtins=j0) (C:∀x k,h_ v x=some k->l.kindOf x=some k\/(k= .free/\l.kindOf x=some .cell)) (ku:l.kindOf "__classdict__"=none) (S:∀x,(x,fB)∈v->∃a g,cj.lookup x=some a/\¬ic c b a/\c.h₀.get? a=none/\m.heap.IsCell a g) (V:∀x a,cj.lookup x=some a->(x,fB)∈v) (kq:∀x y a,cj.lookup x=some a->cj.lookup y=some a->x=y) (hm:∀(i:Nat) x g,(slots v)[i]? =some x->e[i]? =some (some g)->∃a F,cj.lookup x=some a/\m.heap.IsCell a (some F)/\RV c m.heap F g) (kn:e.length=(slots v).length) (kx:BN v=true->l.code= .ref c.lc/\l.qual=c.EW):FR c l v e b ae:=by
 subst hL Y
 have U:∀{x:j7},(x,fB)∈v->(x,f6)∉v:=λj n=>by
  have:=DA ((jT B).mpr j) ((jT B).mpr n);contradiction
 have A:∀x a,l.cells.lookup x=some a->((x,f6)∈v/\m.heap.get? a=none/\a≠l.locals/\ae.heap.IsCell a none)\/((x,f6)∉v/\cj.lookup x=some a/\¬ic c b a/\c.h₀.get? a=none/\∃g,m.heap.IsCell a g):=by
  intro x a f
  by_cases H:(x,f6)∈v
  .refine eS (M.own x H) λZ j n=>?_
   rw [f] at j;obtain rfl:=d3 j
   exact .inl ⟨H,n⟩
  .rw [M.old x H] at f
   refine nV (S x (V x a f)) λZ g j n I P=>?_
   rw [f] at j;obtain rfl:=d3 j
   exact .inr ⟨H,f,n,I,g,P⟩
 have O:∀{a g},m.heap.IsCell a g->∀{d},m.heap.get? d=none->d≠a:=λh _ hd q=>by refine eS h λo ho _=>?_;rw [q,ho] at hd;contradiction
 refine iK (r.kh M.fresh) λkm X=>?_
 refine ⟨⟨G,B,λx f=>?_,λx k f G=>?_,λx f=>?_,λx f=>?_,hg,hb,λx y a f J=>?_,λx a f=>?_,ku⟩,λi x g hi hv=>?_,kn,(oJ _ M.BQ),⟨km,X⟩,λx a f=>?_,kx⟩
 .rcases C x _ f with h |⟨h,_⟩
  .exact h
  .contradiction
 .refine ⟨?_,?_⟩
  .rcases C x k f with h |⟨_,h⟩
   .rcases G with rfl |rfl
    .exact .inl h
    .exact .inr h
   .exact .inl h
  .have L:=(jT B).mp f
   rcases G with rfl |rfl
   .refine eS (M.own x L) λa j _=>?_;exact oJ a j
   .refine i5 (S x L) λa g j _=>?_
    exact oJ a ((M.old x (U L)).trans j)
 .rcases C x _ f with h |⟨h,_⟩
  .exact h
  .contradiction
 .rcases C x _ f with h |⟨h,_⟩
  .exact h
  .contradiction
 .rcases A x a f with ⟨u,p,s,t⟩ |⟨u,p,s,t,g,w⟩
  .rcases A y a J with ⟨E,D,K,N⟩ |⟨E,D,K,N,g,W⟩
   .exact M.apart x y a u E f J
   .exact absurd rfl (O W p)
  .rcases A y a J with ⟨E,D,K,N⟩ |⟨E,D,K,N,g,W⟩
   .exact absurd rfl (O w D)
   .exact kq x y a p D
 .rcases A x a f with ⟨u,p,s,t⟩ |⟨u,p,s,t,g,w⟩
  .exact s.symm
  .exact O w M.fresh
 .refine jS (hm i x g hi hv) λa F j kl P=>?_;refine eS kl λo n I=>?_
  have Q:=V x a j
  refine .inr (nW ?_ a F ((M.old x (U Q)).trans j) ⟨o,M.grow.keep _ _ n,I⟩ (P.grow M.grow))
  rcases C x _ ((jT B).mpr Q) with h |⟨_,h⟩<;>rw [h]<;>simp
 .rcases A x a f with ⟨u,p,s,t⟩ |⟨u,p,s,t,g,o,w,a6⟩
  .refine iK (r.kh p) λj n=>?_
   exact ⟨j,n,_,t⟩
  .exact rI s t g o (M.grow.keep _ _ w) a6
theorem AE:∀{b:List (j7×vA)} {x:j7},
 (b.map λ(n,k)=>if (k==fB&&ab.scope.kind==.function&&ab.kindOf n==some .cell) then (n,f6) else (n,k)).lookup x=(b.lookup x).map λk=>if (k==fB&&ab.scope.kind==.function&&ab.kindOf x==some .cell) then .cell else k:=by
 intro b x
 induction b with
 |nil=>rfl
 |cons p r c=>
  obtain ⟨n,k⟩:=p
  show pd x ((if (k==fB&&ab.scope.kind==.function&&ab.kindOf n==some .cell)=true then (n,f6) else (n,k))::_)=_
  by_cases d:x=n
  .clear c;subst d
   by_cases a:(k==fB&&ab.scope.kind==.function&&ab.kindOf x==some .cell)=true
   .rw [if_pos a,eM,eM,beq_self_eq_true,jV,if_pos a]
   .rw [if_neg a,eM,eM,beq_self_eq_true,jV,if_neg a]
  .have e:=beq_false_of_ne d
   clear d;by_cases a:(k==fB&&ab.scope.kind==.function&&ab.kindOf n==some .cell)=true
   .rw [if_pos a];simp only [eM,e];exact c
   .rw [if_neg a];simp only [eM,e];exact c
noncomputable def JW (caps:List (Option Nat)) (m:MM):MM:=caps.map λc=>c.bind λj=>(m[j]?).join
theorem Pa (F:FR c ab v e b m) (r:R c b m) (H:Dp aJ=true) (kl:qZ v aJ.names=true) {I:Option gX} (M:Made aJ.names (qC ab.cells aJ.names []) m z cj ae):FR c {vU aJ z ab.globals cj ao I J (some ab) aV with scope:=Wh aJ ab} aJ.names (JW (qm v aJ.names) e) b ae:=by
 refine qk (q7 (DF H).1) λB _ _ G W=>?_
 have K:∀d,Env.kindOf {vU aJ z ab.globals cj ao I J (some ab) aV with scope:=Wh aJ ab} d=(h_ aJ.names d).map λk=>if (k==fB&&ab.scope.kind==.function&&ab.kindOf d==some .cell) then .cell else k:=λd=>by
  rw [sA];exact AE
 have u:∀d,(d,fB)∈aJ.names->∃f,ab.cells.lookup d=some f/\ab.kindOf d≠some .local:=λd g=>by
  rcases uH kl d g with h |h
  .refine Q6 (F.ok.var d _ h (.inl rfl)) λa f C=>?_
   exact ei f C (by rcases a with a |a<;>rw [a]<;>simp)
  .refine Q6 (F.ok.var d _ h (.inr rfl)) λa f C=>?_
   exact ei f C (by rcases a with a |a<;>rw [a]<;>simp)
 have t:∀d f,(qC ab.cells aJ.names []).lookup d=some f->(d,fB)∈aJ.names/\ab.cells.lookup d=some f:=λd f g=>by
  refine iK (tm (cj:=ab.cells) (j:=aJ.names) (c:=[]) (b:=d)) λX a2=>?_
  by_cases o:(d,fB)∈aJ.names
  .refine eS (u d o) λQ n _=>?_
   rw [X o,n] at g
   exact ⟨o,by rw [n];exact g⟩
  .rw [a2 o] at g;contradiction
 have D:∀d,(d,fB)∈aJ.names->∃f,ab.cells.lookup d=some f/\(qC ab.cells aJ.names []).lookup d=some f:=λd g=>by
  refine eS (u d g) λf n _=>?_
  refine ei f n ?_
  rw [(tm (cj:=ab.cells) (j:=aJ.names) (c:=[]) (b:=d)).1 g,n];rfl
 refine DG r G M _ rfl rfl B F.ok.globals F.ok.builtins (λd k g=>?_) ?_ (λd g=>?_) (λd f g=>(t d f g).1) (λd y f g U=>F.ok.apart d y f (t d f g).2 (t y f U).2) (λi d p O l=>?_) ?_ (λh=>by rw [(DF H).2] at h;contradiction)
 .rw [K d,g,jV]
  split
  .rename_i n
   simp only [eV,beq_iff_eq] at n
   exact .inr ⟨n.1.1,rfl⟩
  .exact .inl rfl
 .rw [K,sA,W];rfl
 .refine eS (D d g) λf B s=>?_
  refine S7 (F.Du d f B) λb1 Y p b3=>?_
  exact pf f p s b1 Y b3
 .unfold JW qm at l
  rw (config:={}) [ed,ed,O,jV,jV] at l
  have l:=d3 l
  by_cases A:h_ aJ.names d=some .free
  .rw [if_pos A] at l
   refine eS (jh.mp l) λj hj l=>?_
   have L:=(jT G).mp A
   refine eS (u d L) λf n V=>?_
   have S:e[j]? =some (some p):=by
    induction E:e[j]? using d7 with
    |none=>rw [E] at l;contradiction
    |some w=>rw [E] at l;exact congrArg some l
   rcases F.holds j d p (ph hj) S with ⟨k,_⟩ |⟨_,Q,N,Z,T,q⟩
   .exact absurd k V
   .refine eS (D d L) λc2 s P=>?_
    rw [Z] at s;obtain rfl:=d3 s
    exact nr _ N P T q
  .rw [if_neg A] at l;contradiction
 .unfold JW qm;simp
structure Cx (B:Base) (env:zw) (ns:gm) (D:gX) (st:AS) (s:eL) (st':AS) (s':eL):Prop where
 keep:∀b o,s.heap.get? b=some o->¬ic B st b->¬Own ns env b->b≠D->s'.heap.get? b=some o
 foot:∀b,ic B st' b->ic B st b\/s.heap.get? b=none
structure Acc (B:Base) (st:AS) (s:eL) (D:gX) (acc:List AV):Prop where
 obj:∃its k,s.heap.get? D=some (listOf its k)/\hU B s.heap its.toList acc
 len:acc.length<=fE
 nf:¬ic B st D
 h0:B.h₀.get? D=none
inductive Pb (B:Base) (n:Nat) (ns:gm):List gc->w0->Prop where
 |nil:Pb B n ns [] .nil
 |cons {e:gc} {r:List gc} {c:CE} {cs:w0}:ST B n ns e c->Pb B n ns r cs->Pb B n ns (e::r) (.cons c cs)
theorem zG.Sm (x:zG c ab v b m q ae):Cx c ab v z b m q ae:=⟨λa o e f w _=>x.keep a o e f w,x.foot⟩
theorem Cx.trans (x:Cx c ab v z b m q ae) (F:FR c ab v e q ae) (n:∃o,ae.heap.get? z=some o) (y:Cx c ab v z q ae ax aZ):Cx c ab v z b m ax aZ where
 keep a o g f w d:=y.keep a o (x.keep a o g f w d) (λp=>(x.foot a p).elim f λl=>by rw [l] at g;contradiction) w d
 foot a f:=(y.foot a f).elim (x.foot a) λl=>by
  by_cases i:ic c b a
  .exact .inl i
  .by_cases j:Own v ab a
   .refine eS (F.xp j) λo h _=>?_
    rw [l] at h;contradiction
   .by_cases k:a=z
    .clear x F y f i j;subst k;refine j_ n λo h=>?_;rw [l] at h;contradiction
    .induction g:m.heap.get? a with
     |none=>exact .inr rfl
     |some o=>rw [x.keep a o g i j k] at l;contradiction
theorem Cx.but (y:Cx c ab v z b m q ae) (a:vN aV ae aZ) (h:m.heap.get? aV=none):Cx c ab v z b m q aZ:=
 ⟨λg o e f w d=>a.keep g o (λi=>by clear y a f w d;subst i;rw [h] at e;contradiction) (y.keep g o e f w d),y.foot⟩
theorem Acc.has (a:Acc c b m z j):∃o,m.heap.get? z=some o:=i5 a.obj λd k e _=>⟨_,e⟩
theorem Acc.sD (a:Acc c b m z j):∀o,m.heap.get? z=some o->¬f' o:=λo e=>by
 refine i5 a.obj λf k d _=>?_
 rw [e] at d;clear e;obtain rfl:=d3 d;exact qG _ _
theorem Acc.step (a:Acc c b m z j) (r:R c b m) (y:St c b m q ae):Acc c q ae z j:=by
 refine i5 a.obj λd k e g=>?_
 refine ⟨(nA d k (y.keep _ _ e a.nf) (g.step r y)),a.len,λf=>(y.foot z f).elim a.nf (λl=>by rw [l] at e;contradiction),a.h0⟩
theorem FR.Hm (F:FR c ab v e b m) (a:Acc c b m z j):¬Own v ab z/\ab.locals≠z/\∀x g,ab.cells.lookup x=some g->g≠z:=by
 refine i5 a.obj λs k n _=>?_
 have l:ab.locals≠z:=λq=>by
  refine Ae F.BQ λf o t u d r _=>?_
  rw [q,n] at d;(injection d with d;subst d);contradiction
 have i:∀x g,ab.cells.lookup x=some g->g≠z:=λx g h q=>by
  refine oH (F.Du x g h) λ_ _ y o d r=>?_
  rw [q,n] at d;(injection d with d;subst d);contradiction
 exact iz (λw=>w.elim (λq=>l q.symm) λp=>eS p λx _ h=>i x z h rfl) l i
theorem Acc.Cu (a:Acc c b m z j) (r:R c b m) (F:FR c ab v e b m) (y:zG c ab v b m q ae):Acc c q ae z j:=by
 refine i5 a.obj λg k d h=>?_
 refine ⟨(nA g k (y.keep _ _ d a.nf (F.Hm a).1) (h.Cu r F y)),a.len,λf=>(y.foot z f).elim a.nf (λl=>by rw [l] at d;contradiction),a.h0⟩
theorem Acc.but (a:Acc c b m z j) (d:vN aV m ae) (g:aV≠z) (h:∀o,m.heap.get? aV=some o->¬f' o):Acc c b ae z j:=by
 refine i5 a.obj λf k e q=>?_
 exact ⟨(nA f k (d.keep _ _ (nz g) e) (q.but d h)),a.len,a.nf,a.h0⟩
theorem Mf (a:Acc c b m z j) (r:R c b m) (F:FR c ab v e b m) (t:RV c m.heap J l) (p:j.length<fE) (h:∀i,FR c ab v e b i->R c b i->vN z m i->Acc c b i z (j++[l])->aG .none i):WE c L (nB (.builtin "list.append") [.ref z,J]) aG m:=by
 refine i5 a.obj λf k g q=>?_
 have y:f.size=j.length:=by rw [<-q.length,eB]
 refine vW rU (ei _ g rfl) By (SF _ _) (vZ z f k J (a_ (by exact n1 y (eA p)) hX)) ⟨g,?_⟩
 have d:vN z m {m with heap:=m.heap.update z (fJ λl=>l.push J)}:=by
  have u:iE z m.heap (m.heap.update z (fJ λl=>l.push J)):=gJ ..
  exact ⟨λx o d g=>(u.2 x d).trans g,rfl,rfl⟩
 refine mV (F.Hm a) λ_ A w=>?_
 obtain ⟨n,s⟩:∃n,(listOf f k).mapSeq (λl=>l.push J)=listOf (f.push J) n:=oJ _ rfl
 refine h _ (F.but d A w a.sD) (r.but d a.nf a.h0 a.sD) d ⟨(nA (f.push J) n ?_ ?_),by rw [bh];exact p,a.nf,a.h0⟩
 .rw [<-s];exact nD _ g (by rw [s];rfl)
 .rw [so];exact (q.but d a.sD).append (.cons (t.but d a.sD) .nil)
theorem Mg (o:Pb c a v az ar):∀{A:jc} {b:zw} {m:MM} {d:AS} {s:eL} {Q:Bool->AS->Prop},mO a A->FR c b v m d s->R c d s->Oi PG (eE PG a) ar m d Q->
 WE c A (forIn az true λf r=>if r=true then do let j <-GQ f b (vV f b);pure (iN j) else pure (iN r)) (Aw c d s Q) s:=by
 have q:∀(az:List gc) (b:zw),(forIn az false λf r=>if r=true then do let j <-GQ f b (vV f b);pure (iN j) else pure (iN r):Ox Bool)=pure false:=by
  intro az b
  induction az with
  |nil=>rfl
  |cons e r g=>rw [qL];simp only [fW,if_false,pure_bind];exact g
 induction o with
 |nil=>intro A b m d s Q k F r h;exact dj ⟨d,r,.refl,h⟩
 |cons u x g=>
  intro A b m d s Q k F r h
  rw [qL]
  simp only [if_true]
  refine b5 (b5 (q0 (u A b m d s _ k F r h) (λt y w n i l=>dj ?_)))
  dsimp only
  induction t with
  |true=>exact el (g k (F.step r i) n l) (λ_ _ p=>p.trans i) λ_ _ e=>e
  |false=>rw [q];exact dj ⟨w,n,i,l⟩
noncomputable def Cy (B:Base) (n:Nat) (ns:gm) (P:MM->MM->Prop) (act:gX->zw->Ox Unit) (sem:MM->List AV->AS->(List AV->AS->Prop)->Prop):Prop:=
 ∀(A:jc) (env:zw) (m:MM) (st:AS) (s:eL) (D:gX) (acc:List AV) (K:List AV->AS->Prop),mO n A->FR B env ns m st s->R B st s->Acc B st s D acc->sem m acc st K->
  WE B A (act D env) (λ_ s'=>∃acc' m' st',P m m'/\FR B env ns m' st' s'/\R B st' s'/\Cx B env ns D st s st' s'/\Acc B st' s' D acc'/\K acc' st') s
noncomputable def Mh (n:Nat) (it:It) (tg:List Nat) (mb:MM) (cs:w0) (sem:MM->List AV->AS->(List AV->AS->Prop)->Prop) (K:List AV->AS->Prop) (xs:List AV):List AV->AS->Prop:=
 xs.foldr (λx k acc st=>it.ok st/\∃m',jN tg x mb=some m'/\Oi PG (eE PG n) cs m' st λt st=>if t then sem m' acc st k else k acc st)
 (λacc st=>it.ok st/\K acc st)
noncomputable def Rq (elt:gc) (D:gX) (env:zw):Ox Unit:=do
 let x <-vV elt env
 let _ <-nB (.builtin "list.append") [.ref D,x]
noncomputable def Pc (e:gc) (d:Nat) (i:gc) (D:gX) (env:zw):Ox Unit:=do
 let x <-vV i env
 Gz i.pos
 let x <-Sa i env x
 let it <-yR [x] (QT x)
 let _ <-runOwn (.compStart e d it (.ref D) env) env
noncomputable def uI (t i:gc) (fs:List gc) (it:eH) (act:Ox Unit) (env:zw) (c:Code):Ox Fin:=do
 Gz i.pos
 match <-UY it with
 |none=>pure (.done .next)
 |some v=>
  rT t it v
  x8 t env v
  let ok <-forIn fs true λc r=>if r=true then do let ok <-GQ c env (vV c env);pure (iN ok) else pure (iN r)
  if ok then do
   act
   Yu c
  else Yu c
variable {br:List uh}
theorem zc (e:br[a]? =some ⟨aH,aW,az,0⟩) (d:br[a+1]? =none) (c:eH) (D:gX) (b:zw):
 sW (.ListComp a0 br aJ aa) a c (.ref D) b=uI aH aW az c (Rq a0 D b) b (.compLoop (.ListComp a0 br aJ aa) a c (.ref D) b):=by
 unfold sW
 dsimp only
 rw [e,d]
 rfl
theorem xq {f d:gc} {h:List gc} (g:br[a]? =some ⟨aH,aW,az,0⟩) (e:br[a+1]? =some ⟨f,d,h,0⟩) (c:eH) (D:gX) (b:zw):
 sW (.ListComp a0 br aJ aa) a c (.ref D) b=uI aH aW az c (Pc (.ListComp a0 br aJ aa) (a+1) d D b) b (.compLoop (.ListComp a0 br aJ aa) a c (.ref D) b):=by
 unfold sW
 dsimp only
 rw [g,e]
 unfold uI Pc
 simp only [bind_assoc,pure_bind]
 rfl
theorem Cx.frozen (r:R c b m) (F:FR c ab v e b m) (a:Acc c b m z j) (x:Cx c ab v z b m q ae):∀h o,m.heap.get? h=some o->f' o->ae.heap.get? h=some o:=λh o g f=>
 x.keep h o g (λi=>by
  refine eS (r.oC i) λk d n=>?_
  rw [g] at d;(injection d with d;subst d);exact n f) (λw=>by
  refine gi (F.xp w) λk d n _=>?_
  rw [g] at d;(injection d with d;subst d);exact n f) λi=>by clear r F x;subst i;exact a.sD _ g f
theorem St.Sm (x:St c b m q ae):Cx c ab v z b m q ae:=x.toF.Sm
theorem Sn {t:Ox h} {Q:h->eL->Prop} (a:WE c L t Q m):f_ (hJ c.prog c.w) L t Q aG m:=el a (λ_ _ q=>q) λ_ _ e=>e.elim
variable {cY:gX->zw->Ox Unit} {cH:MM->MM->Prop}
theorem Cz {kB:MM->List AV->AS->(List AV->AS->Prop)->Prop} (lu:∀bC z ab,sW (.ListComp a0 br aJ aa) d bC (.ref z) ab=uI aH aW az bC (cY z ab) ab (.compLoop (.ListComp a0 br aJ aa) d bC (.ref z) ab)) (ht:Am v aH=some C) (lA:Pb c a v az ar) (ly:Cy c a v cH cY kB) (lx:∀kW,cH kW kW) (kK:∀(x:AV) (t m2:MM) (X kF:AS) (U s2:eL) (j:List AV),jN C x e=some t->cH t m2->FR c ab v e X U->R c X U->Acc c X U z j->FR c ab v m2 kF s2->Cx c ab v z X U kF s2->FR c ab v e kF s2) (Q:mO a L) (F:FR c ab v e b m) (r:R c b m) (lD:Acc c b m z j) (ky:wK c m.heap aV bC aN 0) (kC:aV≠z) (lF:¬ic c b aV) (kT:c.h₀.get? aV=none) (kq:ab.locals≠aV) (kD:∀x kO,ab.cells.lookup x=some kO->kO≠aV) (y:Cx c ab v z q ae b m) (kJ:ae.heap.get? aV=none) (h:Mh a bC C e ar kB bL aN j b) (hZ:∀p i n,FR c ab v e i n->R c i n->Cx c ab v z q ae i n->Acc c i n z p->bL p i->bG (.ok .next) n):
 sr (hJ c.prog c.w) L (.compLoop (.ListComp a0 br aJ aa) d (.ref aV) (.ref z) ab) bG m:=by
 have kU:¬Own v ab aV:=λw=>w.elim (λky=>kq ky.symm) λzf=>eS zf λx _ hc=>kD x aV hc rfl
 refine codeAny_loop rfl (λk n=>∃aW p i,k=aN.length -aW/\FR c ab v e i n/\R c i n/\Cx c ab v z q ae i n/\Acc c i n z p/\wK c n.heap aV bC aN aW/\¬ic c i aV/\Mh a bC C e ar kB bL (aN.drop aW) p i) ?_ aN.length
  ⟨0,j,b,rfl,F,r,y,lD,ky,lF,h⟩
 intro k n lh;refine Q5 k lh λaW p i lB=>Ad lB λF' Z y' a' q' H O=>?_
 show f_ _ L ((sW (.ListComp a0 br aJ aa) d (.ref aV) (.ref z) ab).onRaise (λx=>do Sz x ab;Uk x)) _ _ n
 refine Yr ?_
 rw [lu]
 unfold uI
 have D:∀o,n.heap.get? aV=some o->¬f' o:=λo g=>by refine eS q'.nf λo' e' nf=>?_;rw [g] at e';obtain rfl:=d3 e';exact nf
 induction E:aN[aW]? using d7 with
 |none=>
  rw [pD (by simpa using E)] at O
  refine iK O λI K=>?_
  refine b5 (mL (b5 (el (q'.done Z I Q.handled E) (λkY J A=>?_) λ_ _ g=>g.elim)))
  refine iK A λg s=>?_
  subst g
  exact dj (hZ p i J (F'.but s kq kD D) (Z.but s H kT D) (y'.but s kJ) (a'.but s kC D) K)
 |some x=>
  rw [drop_cons E] at O
  refine iK O λI K=>?_
  refine b5 (mL (b5 (el (q'.next Z I E) (λkY J A=>?_) λ_ _ g=>g.elim)))
  refine r5 A λw g s kH qw=>?_
  subst g
  have u:=F'.but s kq kD D
  have G:=Z.but s H kT D
  have kV:=y'.but s kJ
  have N:=a'.but s kC D
  refine b5 (Sn (za kH aH w ?_))
  refine eS K λt ku K=>?_
  refine b5 (Sn (DB u G Q.handled ht ku qw λlE kn P T=>?_))
  have lC:=N.Cu G u T
  have kQ:wK c lE.heap aV bC aN (aW+1):=kH.mono (T.frozen G u) λo g=>T.keep aV o g H kU
  refine b5 (el (Mg lA Q kn P K) (λI kl A=>?_) λ_ _ g=>g.elim)
  obtain ⟨M,kG,B,Y⟩:=A
  have V:=kn.step P B
  have W:=lC.step P B
  have kz:¬ic c M aV:=λf=>(B.foot aV f).elim H λl=>by refine eS kQ.nf λo g _=>?_;rw [l] at g;contradiction
  have km:wK c kl.heap aV bC aN (aW+1):=kQ.mono (B.frozen P) λo g=>B.keep aV o g H
  have kx:Cx c ab v z i J M kl:=(T.trans kn B.toF).Sm
  have kN:=(ew.mp E).1
  induction I using j5 with
  |false=>
   simp only [fW,if_false] at Y⊢
   exact dj ⟨rfl,(aN.length - (aW+1)),(by exact Ju aN.length aW kN),(aW+1),p,M,rfl,(kK x t t i M J kl p ku (lx _) u G N V kx),kG,(kV.trans u N.has kx),W,km,kz,Y⟩
  |true=>
   simp only [if_true] at Y⊢
   refine b5 (el (ly L ab t M kl z p _ Q V kG W Y) (λ_ kM A=>?_) λ_ _ g=>g.elim)
   refine s_ A λlr lj kI hP lq kZ S lz lg=>?_
   have kP:=kx.trans V W.has S
   have kX:wK c kM.heap aV bC aN (aW+1):=km.mono (S.frozen kG V W) λo g=>S.keep aV o g kz kU kC
   exact dj ⟨rfl,aN.length - (aW+1),by exact Ju aN.length aW kN,aW+1,lr,kI,rfl,kK x t lj i kI J kM p ku hP u G N lq kP,kZ,kV.trans u N.has kP,lz,kX,λf=>(S.foot aV f).elim kz (λl=>by
    refine eS km.nf λo g _=>?_
    rw [l] at g;contradiction),lg⟩
theorem Fi (b:br[a]? =some ⟨aH,aW,az,0⟩) (q:wK c m.heap z bC j d) (h:sr (hJ c.prog c.w) L (.compLoop (.ListComp a0 br aJ aa) a (.ref z) J ab) bG m):sr (hJ c.prog c.w) L (.compStart (.ListComp a0 br aJ aa) a (.ref z) J ab) bG m:=by
 refine codeAny_of_tree ?_
 show f_ _ _ ((compStart (.ListComp a0 br aJ aa) a (.ref z) J ab).onRaise (λx=>do Sz x ab;Gz theWindowsPlace)) _ _ m
 refine wpAny_notedAt ?_
 unfold compStart
 show f_ _ _ (if (br[a]?).elim false (λx=>x.is_async !=0)=true then _ else _) _ _ m
 rw (config:={}) [b]
 show f_ _ _ (ask>>= _) _ _ m
 refine b5 (Sw (wpAny_ite ?_))
 split
 .first
   |exact b5 (dj (dj (And.intro rfl h)))
   |exact dj (And.intro rfl h)
 .refine b5 (nE ?_)
  show f_ _ _ (match br[a]? with |some g=>Gz g.iter.pos>>= λ_=>(do let v <-QT (.ref z);Yu (.compLoop (.ListComp a0 br aJ aa) a v J ab)) |x=>(do let v <-QT (.ref z);Yu (.compLoop (.ListComp a0 br aJ aa) a v J ab))) _ _ m
  rw [b]
  exact b5 (mL (b5 (Sn (Hj q (dj (And.intro rfl h))))))
theorem Mi (y:SE c a v a0 g):Cy c a v Eq (Rq a0) (VG PG (eE PG a) (VE PG (eE PG a) g) .nil):=λA k m p s D L K q F r u h=>by
 unfold Rq
 refine b5 (fZ (y A k m p s _ q F r h) (λJ M x H n z i j=>?_))
 have l:=F.step r i
 have E:=u.step r i
 refine b5 (Mf E z l n j.1 λI t C G B=>dj ⟨_,m,H,rfl,t,C,?_,B,j.2⟩)
 exact ⟨λb o e f w d=>G.keep b o d (i.keep b o e f),i.foot⟩
theorem IK:∀{c:List Nat} {a:MM} {i:Nat} {v:AV},(Oh c a)[i]? =some (some v)->i∉c/\a[i]? =some (some v):=by
 intro f
 induction f with
 |nil=>
  intro a i v h
  exact ⟨(by (repeat intro _);contradiction),h⟩
 |cons j c e=>
  intro a i v h
  refine iK (e (a:=a.set j none) h) λg b=>?_
  clear e h;by_cases d:i=j
  .subst d
   rw [List.getElem?_set_self'] at b
   induction q:a[i]? with |_=>rw [q] at b;cases b
  .rw [iH (nz d)] at b
   exact ⟨λk=>(eK.mp k).elim d g,b⟩
theorem Pd:∀{b:List Nat} {a:MM},(Oh b a).length=a.length:=by
 intro d
 induction d with
 |nil=>
  intro a
  exact rfl
 |cons j b c=>
  intro a
  exact (c (a:=a.set j none)).trans gI
theorem yn:∀{l:List Nat} {a:List AV} {m:MM} {i:Nat},i∉l->(pE m l a)[i]? =m[i]?
 |[],a,m,i,_=>by rcases a with ⟨⟩<;>rfl
 |j::l,[],m,i,_=>rfl
 |j::l,x::a,m,i,b=>by
  have c:i≠j:=λe=>b (e▸.head _)
  show (pE (m.set j (some x)) l a)[i]? =m[i]?
  rw [yn λh=>b (.tail _ h),iH (nz c)]
theorem JX (h:jN C l e=some bP) (c:a∉C):bP[a]? =e[a]? :=by
 match C,h with
 |[j],h=>
  (injection h with h;subst h)
  exact iH λd=>c (by rw [d];exact .head _)
 |[],h=>
  induction l using AV.casesOn with
  |tup f=>exact (Lu h).2▸yn c
  |_=>contradiction
 |k::b::i,h=>
  refine gi (wd (by simp) h) λf _ _ g=>?_;subst g
  exact yn c
theorem FR.weaken (F:FR c ab v e b m) (d:bP.length=e.length) (h:∀(i:Nat) (a:AV),bP[i]? =some (some a)->e[i]? =some (some a)):FR c ab v bP b m where
 ok:=F.ok
 holds i x a f g:=F.holds i x a f (h i a g)
 len:=d.trans F.len
 BQ:=F.BQ
 E0:=F.E0
 Du:=F.Du
 code:=F.code
theorem TG (x:AV) (k l:MM) (b f:AS) (d g:eL) (m:List AV) (n:jN C x (Oh C e)=some k) (o:k=l) (F:FR c ab v (Oh C e) b d) (r:R c b d) (a:Acc c b d z m) (j:FR c ab v l f g) (y:Cx c ab v z b d f g):FR c ab v (Oh C e) f g:=by
 subst o
 refine j.weaken (F.len.trans j.len.symm) λi p h=>?_
 rw [JX n (IK h).1];exact h
noncomputable def Fj (ns:gm) (m:MM):Prop:=∀(i:Nat) x v,(slots ns)[i]? =some x->m[i]? =some (some v)->h_ ns x=some .free
theorem TH (K:Fj v e) (x:AV) (p B:MM) (g m:AS) (j n:eL) (M:List AV) (Q:jN C x e=some p) (S:cH p B) (F:FR c ab v e g j) (r:R c g j) (a:Acc c g j z M) (l:FR c ab v B m n) (y:Cx c ab v z g j m n):FR c ab v e m n where
 ok:=F.ok
 holds i b t D s:=by
  have A:=K i b t D s
  refine Q6 (F.ok.var b _ A (.inr rfl)) λI O P=>?_
  rcases F.holds i b t D s with ⟨k,_⟩ |⟨k,d,E,f,⟨o,G,N⟩,q⟩
  .rcases I with h |h<;>rw [k] at h<;>contradiction
  .refine .inr (nW k d E f ⟨o,y.keep d o G (F.Du b d f).1 (λw=>?_) ((F.Hm a).2.2 b d f),N⟩ (q.mono (y.frozen r F a)))
   rcases w with H |⟨u,L,J⟩
   .exact F.ok.He b d f H.symm
   .have:=F.ok.apart b u d f J
    subst this
    rw [A] at L;contradiction
 len:=F.len
 BQ:=l.BQ
 E0:=l.E0
 Du:=l.Du
 code:=F.code
theorem Rr (J:gU c) (G:br[d]? =some ⟨aH,aW,az,0⟩) (M:br[d+1]? =none) (L:Am v aH=some C) (p:xb aW=true) (u:SE c a v aW g) (U:Pb c a v az ar) (T:SE c a v a0 D):
 Cy c a v (λ_ _=>True) (Pc (.ListComp a0 br aJ aa) d aW) (VG PG (eE PG a) (VE PG (eE PG a) D) (.cons C g ar .nil)):=λA k m N s R kB ku z F r B h=>by
 unfold Pc
 refine b5 (fZ (u A k m N s _ z F r h.2) (λV kl x t w b n y=>?_))
 have l:=F.step r n
 have j:=B.step r n
 refine b5 (mL (b5 ?_))
 rw [uG p k]
 refine dj (b5 (f5 (el (wc J b w y) (λiv kq H=>?_) λ_ _ e=>e.elim)))
 refine oU H λI it xs e i f E ky=>?_
 clear J p u F r B w y H;subst e
 refine mV (l.Ff f) λW S kC=>?_
 refine iK (b.kh f) λkz km=>?_
 have kn:=l.step b (.grow i)
 have kx:=j.step b (.grow i)
 have Q:I≠R:=λq=>by subst q;refine j_ j.has λo e=>?_;rw [f] at e;contradiction
 refine b5 (wpAny_runOwn (Fi G E ?_))
 have Y:FR c k v (Oh C m) t kq:=kn.weaken Pd λaW V h=>(IK h).2
 refine Cz (q:=t) (ae:=kl) (e:=Oh C m) (cH:=Eq) (bL:=ku) (zc G M) L U (Mi T) (λ_=>rfl) TG z Y (b.grow i) kx E Q kz km W S (Ex i).Sm f ky ?_
 intro X O s' F' Z y' a' hK
 exact dj ⟨X,(Oh C m),O,trivial,F',Z,(n.Sm.trans l j.has y'),a',hK⟩
theorem R.TJ {o:AO} (r:R c b m) (j:¬ic c b z) (w:c.h₀.get? z=none) (u:RO c m.heap z o) (p:∀i t f,o≠.inst i t f):
 b.free z/\R c (b.set z o) m/\∀d,ic c (b.set z o) d->ic c b d\/d=z:=by
 have n:b.free z:=⟨by
  induction e:b z with
  |none=>rfl
  |some A=>exact absurd (.inl (by rw [e];simp)) j,λd i f e=>j (.inr (.inl (qB d i f e)))⟩
 have s:z≠c.tab:=λe=>j (.inr (.inr e))
 have v:∀d,ic c (b.set z o) d->ic c b d\/d=z:=by
  clear r j w u n s;rintro d (h |⟨a,i,f,h⟩ |h)
  .by_cases k:d=z
   .exact .inr k
   .rw [gv k] at h;exact .inl (.inl h)
  .by_cases g:a=z
   .subst g;rw [gW] at h;(injection h with h;subst h);exact absurd rfl (p _ _ _)
   .rw [gv g] at h;exact .inl (.inr (.inl (qB a i f h)))
  .exact .inl (.inr (.inr h))
 refine iz n ⟨λa A e=>?_,r.old,λd k=>?_,λa i t f e=>?_,?_,r.tab,r.gens,r.os⟩ v
 .clear j w p n s v;by_cases g:a=z
  .clear r;subst g;rw [gW] at e;(injection e with e;subst e);exact u
  .rw [gv g] at e;exact r.objs a A e
 .clear j u p n s;rcases v d k with h |rfl
  .exact r.new d h
  .exact w
 .have g:a≠z:=λq=>by subst q;rw [gW] at e;(injection e with e;subst e);exact absurd rfl (p _ _ _)
  rw [gv g] at e
  refine mV (r.Cq a i t f e) λy x C=>?_
  have B:t≠z:=λq=>n.2 a i f (q▸e)
  refine iz (by rw [gv B];exact y) x (λd E D l=>?_)
  clear r j w u n s v e g y x B;by_cases k:d=z
  .subst k;rw [gW] at l;(injection l with l;subst l);exact absurd rfl (p _ _ _)
  .rw [gv k] at l;exact C d E D l
 .rw [gv (nz s)];exact r.vC
theorem adopt (r:R c q ae) (a:Acc c q ae z j) (y:Cx c ab v z b m q ae) (l:m.heap.get? z=none) (n:∀d,Own v ab d->m.heap.get? d=none):
 q.free z/\R c (q.set z (.list j)) ae/\St c b m (q.set z (.list j)) ae:=by
 refine i5 a.obj λu k e i=>?_
 obtain ⟨f,p,s⟩:=r.TJ a.nf a.h0 (.list e i a.len) (by (repeat intro _);contradiction)
 refine ⟨f,p,λd o g t=>y.keep d o g t (λw=>by rw [n d w] at g;contradiction) (λi=>by rw [i,l] at g;contradiction),λd g=>?_⟩
 clear r a n e i f p;rcases s d g with h |rfl
 .exact y.foot d h
 .exact .inr l
theorem JY:Fj aJ.names (JW (qm v aJ.names) e):=λi x d c a=>by
 unfold JW qm at a
 rw (config:={}) [ed,ed,c,jV,jV] at a
 have a:=d3 a
 by_cases b:h_ aJ.names x=some .free
 .exact b
 .rw [if_neg b] at a;contradiction
theorem CA (HB:gU c) {kU:MM->List AV->AS->(List AV->AS->Prop)->Prop} (Z:Dp aJ=true) (kz:qZ v aJ.names=true) (kP:∀H D ab,sW (.ListComp a0 (⟨aH,aW,az,0⟩::br) aJ aa) 0 H (.ref D) ab=uI aH aW az H (cY D ab) ab (.compLoop (.ListComp a0 (⟨aH,aW,az,0⟩::br) aJ aa) 0 H (.ref D) ab)) (ht:Am aJ.names aH=some C) (j:xb aW=true) (hi:SE c a v aW g) (kZ:Pb c a aJ.names az ar) (kV:Cy c a aJ.names cH cY kU) (kT:∀e,cH e e) (hr:mO a L) (F:FR c ab v e b m) (r:R c b m) {kY:Option (eH->Ox Unit)} (h:VE PG (eE PG a) g e b λky b=>oh b (λH xs=>Mh a H C (JW (qm v aJ.names) e) ar kU (λlC b=>∀s,b.free s->n (.ref s) (b.set s (.list lC))) xs [] b) ky) (hZ:∀D S K A,RV c A.heap (.ref D) (.ref D)->R c K A->St c b m K A->n (.ref D) K->Oj c b m S->¬ic c K S->(∃e,A.heap.Ns S e)->compPost (hJ c.prog c.w) L Vt kY aG (.ref D) S (.ok .next) A):
 WE c L (VW (.ListComp a0 (⟨aH,aW,az,0⟩::br) aJ aa) aJ ab b9 (Wi []) false (vV aW ab) kY) aG m:=by
 refine qk (q7 (DF Z).1) λu _ _ T h5=>?_
 have Y:∀i,(i,fB)∈aJ.names->∃s,ab.cells.lookup i=some s:=λi z=>by
  rcases uH kz i z with h |h
  .exact (F.ok.var i _ h (.inl rfl)).2
  .exact (F.ok.var i _ h (.inr rfl)).2
 refine wpAny_comprehension_free rfl (uG j ab) (vP Y) u (λi z hl=>?_) (fZ (hi L ab e b m _ hr F r h) (λky G i lj qv E P kM=>?_))
 .rw [<-sA];exact (jT T).mpr (hl▸z)
 refine el (wc HB E qv kM) (λiv t ζ=>?_) λ_ _ d=>d.elim
 refine oU ζ λI H xs d N O kG ly=>?_
 clear ζ;subst d
 have kD:=F.step r P
 have kN:=kD.step E (.grow N)
 have km:=E.grow N
 unfold Wi
 refine ko (hd:=by size_fits) ?_
 have y:=jw t (listOf #[] 0)
 have X:t.heap.get? t.heap.objs.size=none:=ik _
 show WE c L (GP aJ ab.globals (qC ab.cells aJ.names []) [] ab.qual none .none (some ab)) _ {t with heap:=t.heap.push (listOf #[] 0)}
 generalize lB:t.heap.objs.size=D at X⊢
 have kq:({t with heap:=t.heap.push (listOf #[] 0)}:eL).heap.get? D=some (listOf #[] 0):=by rw [<-lB];exact eW _ rfl
 generalize lD:({t with heap:=t.heap.push (listOf #[] 0)}:eL)=lE at y kq⊢
 have lq:=kN.step km (.grow y)
 have kl:=km.grow y
 refine AD T λB kB lz M=>dj ?_
 have Fc:=Pa (ao:=ab.qual) (I:=none) (J:=.none) (aV:=j0) lq kl Z kz M
 have kI:=kl.grow M.grow
 have kH:=N.trans y
 have Q:∀{p:gX},lE.heap.get? p=none->G.heap.get? p=none:=λ{p} W=>by
  induction d:G.heap.get? p using d7 with
  |none=>rfl
  |some o=>rw [kH.keep p o d] at W;contradiction
 have kx:G.heap.get? D=none:=by
  induction d:G.heap.get? D using d7 with
  |none=>rfl
  |some o=>rw [N.keep D o d] at X;contradiction
 refine iK (E.kh kx) λlh kX=>?_
 have kQ:=M.grow.keep _ _ kq
 have lr:Acc c lj lz D []:=⟨(nA (#[]) 0 kQ .nil),ft _,lh,kX⟩
 have kC:wK c lz.heap I H xs 0:=kG.mono (λkF o d _=>M.grow.keep _ _ (y.keep _ _ d)) λo d=>M.grow.keep _ _ (y.keep _ _ d)
 refine iK (E.kh O) λlA lu=>?_
 have V:∃o,t.heap.get? I=some o:=eS kG.nf λo d _=>(oJ o d)
 have kW:I≠D:=λq=>by subst q;refine j_ V λo d=>?_;rw [X] at d;contradiction
 have kJ:B≠I:=λq=>by
  refine j_ V λo d=>?_
  have:=M.fresh
  rw [q,y.keep _ _ d] at this;contradiction
 have lg:∀i s,kB.lookup i=some s->s≠I:=λi s j q=>by
  by_cases z:(i,f6)∈aJ.names
  .refine gi (M.own i z) λc' u h2 _=>?_
   rw [j] at u;obtain rfl:=d3 u
   refine j_ V λo d=>?_
   rw [q,y.keep _ _ d] at h2;contradiction
  .rw [M.old i z] at j
   refine iK (tm (cj:=ab.cells) (j:=aJ.names) (c:=[]) (b:=i)) λa1 a2=>?_
   by_cases hm:(i,fB)∈aJ.names
   .refine j_ (Y i hm) λc' lx=>?_
    rw [a1 hm,lx] at j
    (injection j with j;subst j)
    refine oH (kD.Du i _ lx) λ_ _ ky o J _=>?_
    have q:c'=I:=q
    rw [q,O] at J;contradiction
   .rw [a2 hm] at j;contradiction
 have kK:∀p,Own aJ.names {vU aJ B ab.globals kB ab.qual none .none (some ab) j0 with scope:=Wh aJ ab} p->G.heap.get? p=none:=by
  rintro p (w |⟨i,z,j⟩)
  .have w:p=B:=w
   rw [w];exact Q M.fresh
  .have j:kB.lookup i=some p:=j
   refine gi (M.own i ((jT T).mp z)) λc' u h2 _=>?_
   rw [j] at u;(injection u with u;subst u)
   exact Q h2
 refine Fi (by rfl) kC ?_
 refine Cz (q:=lj) (ae:=G) kP ht kZ kV kT (TH JY) hr Fc kI lr kC kW lA lu kJ lg (Ex (kH.trans M.grow)).Sm O ly ?_
 intro lH K A U r' y' a' hK
 refine mV (adopt r' a' y' kx kK) λhf kO kn=>?_
 have ku:G.heap.get? B=none:=Q M.fresh
 refine hZ D B _ A (.ref D) kO (P.trans kn) (hK D hf) (Oj.of P ku) (λf=>?_) U.BQ
 rcases kn.foot B f with f |l
 .exact (E.kh ku).1 f
 .exact U.E0.1 (by
   rcases f with f |⟨kF,s,az,d⟩ |f
   .by_cases W:B=D
    .refine Ae U.BQ λf0 o es ep J lF _=>?_
     refine i5 a'.obj λlG k d _=>?_
     have J:A.heap.get? B=some o:=J
     rw [W,d] at J;obtain rfl:=d3 J;contradiction
    .rw [gv W] at f;exact .inl f
   .clear HB Z kz kP ht j hi kZ kV kT hr F r h hZ u T h5 Y qv E P kM N O kG ly kD kN km lB X lD y kq lq kl M Fc kI kH Q kx lh kX kQ lr kC lA lu V kW kJ lg kK U r' y' a' hK hf kO kn ku l;by_cases ha:kF=D
    .subst ha;rw [gW] at d;(injection d;contradiction)
    .rw [gv ha] at d;exact .inr (.inl (qB kF s az d))
   .exact .inr (.inr f))
theorem yo (c:iE z m.heap H):vN z m {m with heap:=H}:=⟨λb o a e=>(c.2 b a).trans e,rfl,rfl⟩
variable {bu:j7->Option eH}
theorem TK (h:m.heap.Ns z bu):∀o,m.heap.get? z=some o->¬f' o:=λo e=>by
 refine wX h λf d c a b _=>?_
 rw [e] at a;obtain rfl:=d3 a;exact rK b
variable {bD:Gens}
theorem Mj (S:gU c) (H:Dp aJ=true) (K:qZ v aJ.names=true) (P:∀T i d,sW (.ListComp a0 (⟨aH,aW,az,0⟩::br) aJ aa) 0 T (.ref i) d=uI aH aW az T (cY i d) d (.compLoop (.ListComp a0 (⟨aH,aW,az,0⟩::br) aJ aa) 0 T (.ref i) d)) (z:Am aJ.names aH=some C) (I:xb aW=true) (M:SE c a v aW g) (J:Pb c a aJ.names az ar) (G:Cy c a aJ.names cH cY (VG PG (eE PG a) (VE PG (eE PG a) D) bD)) (B:∀m,cH m m):
 SE c a v (.ListComp a0 (⟨aH,aW,az,0⟩::br) aJ aa) (.comp (qm v aJ.names) D C g ar bD)/\SU c a v (.ListComp a0 (⟨aH,aW,az,0⟩::br) aJ aa) (.comp (qm v aJ.names) D C g ar bD):=by
 constructor
 .intro A d m st s O y F r h
  rw [eval_ListComp]
  refine CA (kY:=none) (n:=O) S H K P z I M J G B y F r h ?_
  intro i L E w N x n t k j X;refine j_ X λf l=>?_
  refine ei f l (λh' p=>?_)
  have R:=yo p
  exact ⟨.ref i,E,.ref i,x.but R j (k.h0 r) (TK l),⟨λb o e U=>R.keep b o (λq=>by clear S H K P z I M J G B y F r h N x n t j l p R;clear X;subst q;exact U (k o e)) (n.keep b o e U),n.foot⟩,t⟩
 .intro A d m st s O Y u y F r h hu
  show WE c A (do let _ <-VW (.ListComp a0 (⟨aH,aW,az,0⟩::br) aJ aa) aJ d (firstIterPos (⟨aH,aW,az,0⟩::br) aa) (Wi []) false (vV aW d) (some u)) Y s
  refine b5 (el (CA (kY:=some u) (n:=O) (aG:=λ_ w=>Y () w) S H K P z I M J G B y F r h ?_) (λ_ _ q=>dj q) λ_ _ e=>e)
  intro i L E w N x n t k j kl;refine j_ kl λf l=>?_
  refine el (hu _ _ E w N x n t) (λ_ km ζ=>?_) λ_ _ e=>e
  refine iK ζ λh1 h2=>?_
  refine yb l λo es ep ho W=>?_
  have V:=h1 L o ho k j
  exact ei f ⟨o,es,ep,V,W⟩ (λh' p=>h2 L _ (yo p) k j λo2 e=>by rw [V] at e;obtain rfl:=d3 e;exact rK W.1)
noncomputable def kR (k:Nat->Nat) (p:Array Nat) (i:Nat):Nat:=k ((p[i]?).getD 0)
noncomputable def yp (k:Nat->Nat) (p:Array Nat) (m:Nat):Prop:=∀i j,i<=j->j<m->kR k p i<=kR k p j
noncomputable def Fm (n:Nat) (p:Array Nat):Prop:=p.toList.Perm (eQ n)
variable {cm:Array Nat}
theorem Fm.size (h:Fm a cm):cm.size=a:=by rw [<-eB,h.length_eq,fc]
noncomputable def leB (es:List (Nat×Nat)) (b:Nat):Nat->Nat->Bool
 |0,a=>a==b
 |f+1,a=>a==b||es.any λe=>e.1==a&&leB es b f e.2
variable {aO:Nat->Nat}
theorem Hn {d:List (Nat×Nat)} (h:∀e∈d,aO e.1<=aO e.2):∀f b,leB d a f b=true->aO b<=aO a
 |0,b,q=>by rw [eq_of_beq q];exact eJ _
 |f+1,b,q=>((j1 _ _).mp q).elim (λq=>by rw [eq_of_beq q];exact eJ _) λq=>by
  refine eS (qb.mp q) λe g c=>?_
  have c:=(eV _ _).mp c
  rw [<-eq_of_beq c.1]
  exact a_ (h e g) (Hn h f _ c.2)
noncomputable def UO (n:Nat):KasT (Array Nat)->List (Nat×Nat)->List (Nat×Nat)->Bool
 | .ret p,es,ss=>(p.toList.isPerm (eQ n)&&(eQ (n -1)).all λj=>leB es ((p[j+1]?).getD 0) 4 ((p[j]?).getD 0))||ss.any λe=>leB es e.1 4 e.2
 | .ask i j f,es,ss=>decide (i<n)&&(decide (j<n)&&(UO n (f true) ((i,j)::es) ((i,j)::ss)&&UO n (f false) ((j,i)::es) ss))
theorem Mk (h:∀j,j+1<a->kR aO cm j<=kR aO cm (j+1)):yp aO cm a:=λi j d=>Nat.le.rec (motive:=λj _=>j<a->kR aO cm i<=kR aO cm j) (λ_=>eJ _) (λ_ c b=>a_ (c (pI b)) (h _ b)) d
theorem Ho {r:Nat->Nat->(Bool->eL->Prop)->eL->Prop} (l:∀i j (C:Bool->eL->Prop),i<a->j<a->C (decide (aO i<aO j)) m->r i j C m) {Q:Array Nat->eL->Prop} (g:∀p,Fm a p->yp aO p a->Q p m):
 ∀t d n,(∀e∈d,aO e.1<=aO e.2)->(∀e∈n,aO e.1<aO e.2)->UO a t d n=true->t.kasWp r Q m
 | .ret p,d,n,c,k,h=>((j1 _ _).mp h).elim (λh=>by
  have h:=(eV _ _).mp h
  exact g p (List.isPerm_iff.mp h.1) (Mk λj u=>Hn c _ _ (k_.mp h.2 j (eU.mpr (Nat.lt_sub_of_add_lt u))))) λh=>by
  clear l g;refine eS (qb.mp h) λe s b=>?_
  exact absurd (Hn c _ _ b) (Nat.not_le_of_lt (k e s))
 | .ask i j f,d,n,c,k,h=>by
  have h:=(eV _ _).mp h
  have b:=(eV _ _).mp h.2
  have o:=(eV _ _).mp b.2
  refine l i j _ (of_decide_eq_true h.1) (of_decide_eq_true b.1) ?_
  clear h b;clear h;by_cases q:aO i<aO j
  .rw [decide_eq_true q]
   exact Ho l g (f true) _ _ (vI.mpr ⟨eA q,c⟩) (vI.mpr ⟨q,k⟩) o.1
  .rw [decide_eq_false q]
   exact Ho l g (f false) _ _ (vI.mpr ⟨iY.mp q,c⟩) k o.2
theorem Vz:∀n<6,UO n (kas_sort n) [] []=true:=by decide+kernel
theorem IL {b:Nat->Nat->(Bool->eL->Prop)->eL->Prop} (d:∀i j (C:Bool->eL->Prop),i<a->j<a->C (decide (aO i<aO j)) m->b i j C m) {Q:Array Nat->eL->Prop} (c:a<6) (e:∀p,Fm a p->yp aO p a->Q p m):(kas_sort a).kasWp b Q m:=
 Ho d e _ [] [] (Jw _) (Jw _) (Vz a c)
theorem Lt.ne (h:Lt l af):l≠af:=by
 induction h with
 |int h=>intro e;(injection e with e;subst e);exact absurd h (xZ _)
 |tup p x y r s h a=>
  intro e
  injection e with e
  have:=List.append_cancel_left e
  exact a (fo this).1
 |len p y s=>
  intro e
  injection e with e
  have:=congrArg fi e
  simp at this
theorem Lt.irrefl (h:Lt l l):False:=h.ne rfl
open Mine.Lt renaming irrefl->Si
theorem tp:Lt (.tup (l::j)) (.tup (af::aN))↔Lt l af\/(l=af/\Lt (.tup j) (.tup aN)):=by
 constructor
 .intro h
  generalize a:AV.tup (l::j)=v at h
  generalize b:AV.tup (af::aN)=w at h
  induction h using Lt.casesOn with
  |int _=>contradiction
  |tup p x y r s h=>
   injection a with a;injection b with b
   induction p using ej with
   |nil=>
    refine KV l j (fo a) ?_
    refine KV af aN (fo b) ?_
    exact .inl h
   |cons z p=>
    refine KV l j (fo a) ?_
    clear a;refine KV af aN (fo b) ?_
    exact .inr ⟨rfl,.tup p x y r s h⟩
  |len p y s=>
   injection a with a;injection b with b
   subst a
   refine KV af aN (fo b) ?_
   exact .inr ⟨rfl,.len j y s⟩
 .rintro (h |⟨rfl,h⟩)
  .exact .tup [] l af j aN h
  .generalize a:AV.tup j=v at h
   generalize b:AV.tup aN=w at h
   induction h using Lt.casesOn with
   |int _=>contradiction
   |tup p x y r s h=>
    injection a with a;injection b with b
    subst a b
    exact .tup (l::p) x y r s h
   |len p y s=>
    injection a with a;injection b with b
    subst a b
    exact .len (l::j) y s
theorem lt_nil_cons:Lt (.tup []) (.tup (l::j)):=.len [] l j
theorem not_lt_nil:¬Lt l (.tup []):=by
 intro h
 generalize a:AV.tup []=w at h
 induction h using Lt.casesOn with
 |int _=>contradiction
 |tup p l y r s h=>injection a with a;have:=congrArg fi a;simp at this
 |len p y s=>injection a with a;have:=congrArg fi a;simp at this
theorem lt_int:Lt (.int p) (.int aB)↔p<aB:=⟨λh=>by rcases h with ⟨⟩;assumption,.int⟩
theorem zd:∀(n:Nat) {a b c:AV},oN n a->Lt a b->Lt b c->Lt a c:=by
 intro n
 induction n with
 |zero=>
  intro a b c h e d
  cases h with
  |int _ i=>
   cases e with
   |int e=>cases d with |int d=>exact .int (zB e d)
 |succ n l=>
  intro a b c h e d
  cases h with
  |int _ i=>
   cases e with
   |int e=>cases d with |int d=>exact .int (zB e d)
  |tup _ k j=>
   obtain ⟨g,rfl⟩:∃g,b= .tup g:=by rcases e with ⟨⟩<;>exact ⟨_,rfl⟩
   obtain ⟨f,rfl⟩:∃f,c= .tup f:=by rcases d with ⟨⟩<;>exact ⟨_,rfl⟩
   induction k generalizing g f with
   |nil=>
    induction f using ej with
    |nil=>exact absurd d not_lt_nil
    |cons z f=>exact lt_nil_cons
   |cons x k o=>
    induction g using ej with
    |nil=>exact absurd e not_lt_nil
    |cons y g=>
     induction f using ej with
     |nil=>exact absurd d not_lt_nil
     |cons z f=>
      rw [tp] at e d⊢
      rcases e with e |⟨rfl,e⟩
      .rcases d with d |⟨rfl,d⟩
       .exact .inl (l (j x (.head _)) e d)
       .exact .inl e
      .rcases d with d |⟨rfl,d⟩
       .exact .inl d
       .exact .inr ⟨rfl,o (λu m=>j u (.tail _ m)) _ e _ d⟩
theorem gV.symm (h:gV l af):gV af l:=by
 rcases h with h |h |h
 .exact .inr (.inr h)
 .exact .inr (.inl h.symm)
 .exact .inl h
theorem oK (h:gV (.tup (l::j)) (.tup (af::aN))):gV l af/\(l=af->gV (.tup j) (.tup aN)):=by
 rcases h with h |h |h
 .rcases tp.mp h with g |⟨rfl,g⟩
  .exact ⟨.inl g,λe=>absurd e g.ne⟩
  .exact ⟨.inr (.inl rfl),λ_=>.inl g⟩
 .injection h with h
  refine KV l j (fo h) ?_
  exact ⟨.inr (.inl rfl),λ_=>.inr (.inl rfl)⟩
 .rcases tp.mp h with g |⟨rfl,g⟩
  .exact ⟨.inr (.inr g),λe=>absurd e.symm g.ne⟩
  .exact ⟨.inr (.inl rfl),λ_=>.inr (.inr g)⟩
theorem IM (b:oN a l) (e:oN d af) (f:RV c m.heap J l) (g:RV c m.heap aT af) (k:L.units+a<vz) (h:cQ (decide (l=af)) m):f_ (hJ c.prog c.w) L (eqBool J aT) cQ aG m:=by
 refine j_ (jX b.plain f) λo i=>?_
 refine j_ (jX e.plain g) λn j=>?_
 refine eqBoolOverData _ _ _ _ _ _ _ _ _ _ _ _ i j (iu b.plain).1 (iu e.plain).1 ?_ ?_
 .have:=(iu b.plain).2
  exact c4 (d5 (a_ (g7 _ _) this) _) k
 .have d:mS (toPy l) (toPy af)=decide (l=af):=by
   have:=xf b.plain e.plain
   by_cases q:l=af
   .rw [decide_eq_true q];exact this.mpr q
   .rw [decide_eq_false q]
    induction z:mS (toPy l) (toPy af) with
    |false=>rfl
    |true=>exact absurd (this.mp z) q
  rw [d];exact h
theorem Rt {B:Base} {E:eH->eL->Prop}:∀(d:Nat) {A:jc} {s:eL} {v w:eH} {x y:AV} {Q:eH->eL->Prop},oN d x->oN d y->RV B s.heap v x->RV B s.heap w y->gV x y->A.units+10*d+10<vz->
 (∀c:Bool,(c=true↔Lt x y)->Q (.bool c) s)->f_ (hJ B.prog B.w) A (richCompare .Lt v w) Q E s:=by
 intro d
 induction d with
 |zero=>
  intro A s v w x y Q hx hy qv qw hc hu h
  cases hx with
  |int _ i=>
   cases hy with
   |int _ j=>
    refine rY v (gn qv) λt=>?_
    refine rY w (gn qw) λu=>?_
    exact Wg (h _ (by rw [decide_eq_true_iff];exact Mine.lt_int.symm))
 |succ d ih=>
  intro A s v w x y Q hx hy qv qw hc hu h
  cases hx with
  |int _ i=>
   cases hy with
   |int _ j=>
    refine rY v (gn qv) λt=>?_
    refine rY w (gn qw) λu=>?_
    exact Wg (h _ (by rw [decide_eq_true_iff];exact Mine.lt_int.symm))
   |tup _ ys hy=>
    clear ih hu qv hy qw h;rcases hc with hc |hc |hc<;>contradiction
  |tup _ xs hx=>
   cases hy with
   |int _ j=>clear ih hu hx qv qw h;rcases hc with hc |hc |hc<;>contradiction
   |tup _ ys hy=>
    refine g0 v (iB qv) λa xi n1 ea la ra=>?_
    refine g0 w (iB qw) λb yi n2 eb lb rb=>?_
    refine wpAny_richCompare_same_room (op:=.Lt) (oO ea) (oO eb) Er (nc Er (oO ea) YN ?_ (YQ _ _)) (by exact u0 hu)
    show f_ _ _ (YE (.ref b) (.type "tuple")>>= _) _ _ s
    refine b5 (Sv (oO eb) N1 ?_)
    simp only [wQ,fW,if_false]
    refine b5 (z8 ea rfl ?_)
    refine b5 (z8 eb rfl ?_)
    refine b5 ?_
    refine qQ _
     (λrest r s'=>r.1=none/\s'=s/\∃vs ws us zs,rest=List.zip vs ws/\hU B s.heap vs us/\hU B s.heap ws zs/\(∀u∈us,oN d u)/\(∀u∈zs,oN d u)/\gV (.tup us) (.tup zs)/\(Lt (.tup us) (.tup zs)↔Lt (.tup xs) (.tup ys))/\
      (decide (xi.size<yi.size)=decide (vs.length<ws.length)))
     _ ?_ ?_ _ _ ⟨rfl,rfl,xi.toList,yi.toList,xs,ys,rfl,ra,rb,hx,hy,hc,Iff.rfl,(by simp)⟩
    .intro zr1 rest r s' zr2;obtain ⟨p,q⟩:=zr1;refine tQ s' zr2 λhr vs ws us zs hz hv hw hu1 hz1 hcm hiff hlen=>?_
     induction hv using hU.casesOn with
     |nil=>simp at hz
     | @cons p' u' vs us h1 hv=>
      induction hw using hU.casesOn with
      |nil=>simp at hz
      | @cons q' z' ws zs h2 hw=>
       simp only [o_,ix,BI] at hz
       refine Va rest hz λzz1=>?_;refine KV p q zz1 ?_
       refine iK (oK hcm) λc1 c2=>?_
       refine b5 (IM (hu1 u' (.head _)) (hz1 z' (.head _)) h1 h2 (by show A.units+1+d<vz;exact u2 hu) ?_)
       by_cases he:u'=z'
       .clear ih hu hx hy hc la lb hr qv ea ra qw eb rb hcm h1 h2 c1;subst he
        rw [decide_eq_true rfl]
        simp only [wQ,fW,if_false]
        refine dj ⟨rfl,rfl,vs,ws,us,zs,rfl,hv,hw,(λz hz=>hu1 z (.tail _ hz)),(λz hz=>hz1 z (.tail _ hz)),(c2 rfl),?_,(by simpa using hlen)⟩
        rw [<-hiff,tp]
        exact ⟨λh=>.inr ⟨rfl,h⟩,λh=>h.elim (λh=>h.irrefl.elim) λh=>h.2⟩
       .rw [decide_eq_false he]
        simp only [Bool.not_false,if_true]
        refine b5 (nE ?_)
        refine b5 (ih (hu1 u' (.head _)) (hz1 z' (.head _)) h1 h2 c1 (by show A.units+1+10*d+10<vz;exact u1 hu) λc hcz=>?_)
        refine b5 (dj (dj (dj (gq _ rfl (by (repeat intro _);contradiction) (h c ?_)))))
        rw [hcz,<-hiff,tp]
        exact ⟨.inl,λh=>h.elim id λh=>absurd h.1 he⟩
    .intro zr3 s' zr4;obtain ⟨r1,r2⟩:=zr3;refine tQ s' zr4 λhr vs ws us zs hz hv hw hu1 hz1 hcm hiff hlen=>?_
     simp only at hr
     clear zr4;subst hr
     show f_ _ _ (ret (.bool (decide (xi.size<yi.size)))) _ _ _
     rw [hlen]
     refine dj (gq _ rfl (by (repeat intro _);contradiction) (h _ ?_))
     rw [<-hiff,decide_eq_true_iff]
     clear ih hu hx hy hc la lb qv ea ra qw eb rb hu1 hz1 hcm hiff hlen;induction hv using hU.casesOn with
     |nil=>
      clear hz;induction hw using hU.casesOn with
      |nil=>exact ⟨λh=>absurd h (jg _),λh=>absurd h not_lt_nil⟩
      |cons _ _=>exact ⟨λ_=>lt_nil_cons,λ_=>fz _⟩
     |cons _ _=>
      induction hw using hU.casesOn with
      |nil=>exact ⟨λh=>absurd h (o9 _),λh=>absurd h not_lt_nil⟩
      |cons _ _=>simp at hz
theorem Ol (h:a<6):a<=sizeLine:=a_ (eA h) (by rw [nC];decide)
theorem TL (h:I<6) (b:d<I) (e:a=min d o):a<=sizeLine:=n1 e (a_ (g7 _ _) (eA (eh b (Ol h))))
theorem vN.trans (x:vN z m ae) (y:vN z ae aZ):vN z m aZ:=⟨λb o a e=>y.keep b o a (x.keep b o a e),y.gens.trans x.gens,y.os.trans x.os⟩
noncomputable def Ml (B:Base) (A:jc) (a:gX) (ks:List eH) (k:Nat->Nat) (s:eL):Prop:=
 2<=ks.length->∀s',vN a s s'->f_ (hJ B.prog B.w) A (keyKind' ks.toArray) (λκ s''=>s''=s'/\∀i j (C:Bool->eL->Prop),i<ks.length->j<ks.length->C (decide (k i<k j)) s'->Se B.prog B.w A κ ks i j C s') (λ_ _=>False) s'
theorem DH {P:Um->eL->Prop} (q:m.heap.get? z=some (gr "list" aj.toArray a)) (s:aj.length<6) (B:Ml c L z aj aO m) (h:∀(d:Array Nat) g O,Fm aj.length d->yp aO d aj.length->vN z m g->g.heap.get? z=some (listOf (jf (d.toList.map λi=>aj.getD i jn)) O)->P (.done (.ret .none)) g):
 f_ (hJ c.prog c.w) L (vY.«list.sort» ⟨[.ref z],[]⟩) P aG m:=by
 have M:z<m.heap.objs.size:=rr q
 have W:=nC
 obtain ⟨t,x⟩:∃t,(m.heap.update z (fJ λ_=>(#[]:Array eH))).get? z=some (gr "list" #[] t):=oJ _ (rV q λ_=>#[])
 have A:=gJ m.heap z (fJ λ_=>(#[]:Array eH))
 rw [list_sort_plain]
 refine b5 (K9 q rfl ?_)
 refine b5 (rt q rfl ?_ (by rw [j4];exact Ol s) (ft _))
 refine b5 (Eu x rfl ?_)
 refine b5 (UU ?_ (by show aj.length<=_;exact Ol s))
 refine b5 (zM ?_ (ft _))
 refine f5 ?_
 show f_ _ L _ P aG {m with heap:=((m.heap.update z (fJ λ_=>(#[]:Array eH))).push (gr "tuple" aj.toArray 0)).push (gr "list" #[] 0)}
 have E:(((m.heap.update z (fJ λ_=>(#[]:Array eH))).push (gr "tuple" aj.toArray 0)).push (gr "list" #[] 0)).get? z=some (gr "list" #[] t):=fm _ (fm _ x)
 have n:vN z m {m with heap:=((m.heap.update z (fJ λ_=>(#[]:Array eH))).push (gr "tuple" aj.toArray 0)).push (gr "list" #[] 0)}:=
  ⟨λb o n e=>fm _ (fm _ ((A.2 b n).trans e)),rfl,rfl⟩
 generalize D:({m with heap:=((m.heap.update z (fJ λ_=>(#[]:Array eH))).push (gr "tuple" aj.toArray 0)).push (gr "list" #[] 0)}:eL)=v at n⊢
 have w:v.heap.get? z=some (gr "list" #[] t):=by rw [<-D];exact E
 dsimp only
 have F:∀(d:Array Nat) k,Fm aj.length d->yp aO d aj.length->k=v->f_ (hJ c.prog c.w) L (do
  let Z:=(<-seqEpoch z)!=t
  Un (.ref z) λ_=>jf (d.toList.map λi=>aj.getD i jn)
  if Z then rule "list.sort.modified";raiseError "ValueError" "list modified during sort"
  ret .none) P aG k:=by
  intro d k l r K;subst K
  have I:(jf (d.toList.map λi=>aj.getD i jn)).size=aj.length:=by rw [j4,bb,eB,l.size]
  refine b5 (Eu w rfl ?_)
  refine b5 (rt w rfl ?_ (ft _) (a_ (gu I) (by exact fY (Ol s))))
  simp only [bne_self_eq_false,fW,if_false]
  have H:=gJ k.heap z (fJ λ_=>jf (d.toList.map λi=>aj.getD i jn))
  exact dj (h d _ _ l r (n.trans (yo H)) (rV w λ_=>jf (d.toList.map λi=>aj.getD i jn)))
 by_cases f:aj.toArray.size<2
 .rw [if_pos f,if_pos f]
  refine b5 (dj ?_)
  rw [StateT.run_pure]
  refine b5 (dj ?_)
  have f:aj.length<2:=by simpa using f
  have:=F (eQ aj.length).toArray v (by unfold Fm;simp) (λi j U hj=>by rw [show i=j by exact V1 f U hj];exact eJ _) rfl
  have e:jf ((eQ aj.length).toArray.toList.map λi=>aj.getD i jn)=(aj.toArray.zip aj.toArray).map (·.2):=by
   refine (Ow (ks:=aj) (st:=SortSt.mk' general' (aj.toArray.zip aj.toArray) #[] 7 none) (p:=(eQ aj.length).toArray) rfl ?_).symm
   have e:=kas_range (aj.toArray.zip aj.toArray)
   rw [show (aj.toArray.zip aj.toArray).size=aj.length by simp] at e
   exact e.symm
  rw [e] at this
  exact this
 .rw [if_neg f,if_neg f]
  have f:2<=aj.length:=by simpa using f
  refine b5 (el (B f v n) (λκ k C=>?_) λ_ _ e=>e.elim)
  clear q B h M W x A E D n w;refine iK C λX J=>?_
  clear C;subst X
  refine b5 (el (kat_run (ks:=aj) (vs:=aj) (Q:=λu g=>∃d,Fm aj.length d/\yp aO d aj.length/\arrOf u=d.map (kas_item (aj.toArray.zip aj.toArray))/\U7 u=none/\g=k) (G:=λd g=>Fm aj.length d/\yp aO d aj.length/\g=k) rfl f (eh s (by decide))
   (λd u g _ R a3 y=>⟨d,y.1,y.2.1,R,a3,y.2.2⟩) (IL J (by exact s) λd l r=>(iz l r rfl))) ?_ λ_ _ e=>e)
  intro N g V;obtain ⟨⟨⟩,u⟩:=N;refine zT V λd l r Y T S=>?_
  dsimp only
  rw [Ow rfl Y,T]
  exact F d g l r S
open Classical in
noncomputable def rk (xs:List AV) (i:Nat):Nat:=(eQ xs.length).countP λt=>decide (Lt (xs.getD t .none) (xs.getD i .none))
variable {e9:h->Bool}
theorem JZ {q:h->Bool} (c:∀x∈dq,e9 x=true->q x=true) (a:dp∈dq) (g:e9 dp=false) (j:q dp=true):dq.countP e9<dq.countP q:=by
 induction dq with
 |nil=>exact (ee a).elim
 |cons x r f=>
  have i:r.countP e9<=r.countP q:=List.countP_mono_left λy d=>c y (.tail _ d)
  rcases eK.mp a with rfl |a
  .rw [tO (by rw [g];simp),pe j]
   exact Nat.lt_succ_of_le i
  .have:=f (λy d=>c y (.tail _ d)) a
   by_cases b:e9 x=true
   .rw [pe b,pe (c x (.head _) b)];exact qE this 1
   .rw [tO b]
    by_cases e:q x=true
    .rw [pe e];exact Ac 1 this
    .rw [tO e];exact this
theorem jY (b:a<dq.length):dq.getD a dp=dq[a]:=by simp [b]
theorem Qw (l:∀x∈j,oN a x) (g:j.Pairwise gV) (b:d<j.length) (c:o<j.length):rk j d<rk j o↔Lt (j.getD d .none) (j.getD o .none):=by
 classical
 have i:∀{d o},d<j.length->o<j.length->Lt (j.getD d .none) (j.getD o .none)->rk j d<rk j o:=λ{d o} b c h=>by
  refine JZ (dp:=d) (λt e f=>?_) (eU.mpr b) ?_ ?_
  .have e:=eU.mp e
   rw [decide_eq_true_iff] at f⊢
   exact zd a (by rw [jY e];exact l _ (fN _)) f h
  .rw [decide_eq_false_iff_not];exact Si
  .rw [decide_eq_true_iff];exact h
 refine ⟨λh=>?_,i b c⟩
 have k:gV (j.getD d .none) (j.getD o .none):=by
  rw [jY b,jY c]
  rcases zy d o with q |q |q
  .exact oz.mp g d o b c q
  .subst q;exact .inr (.inl rfl)
  .exact (oz.mp g o d c b q).symm
 rcases k with q |q |q
 .exact q
 .exfalso
  have:rk j d=rk j o:=by unfold rk;rw [q]
  exact rz h this
 .have:=i c b q
  exact absurd h (Nat.lt_asymm this)
theorem CB {B:Base} {s:eL} {A:jc} {d:Nat} {b fin:Bool} (hu:A.units+10*d+10<vz):∀{vs ws:List eH} {us zs:List AV} {i:Nat} {Q:Bool->eL->Prop},hU B s.heap vs us->hU B s.heap ws zs->(∀u∈us,oN d u)->(∀u∈zs,oN d u)->gV (.tup us) (.tup zs)->
 (b=true->i=0->∀u z us' zs',us=u::us'->zs=z::zs'->(∃n,u= .int n)/\∃n,z= .int n)->(fin=decide (vs.length<ws.length))->(∀c:Bool,(c=true↔Lt (.tup us) (.tup zs))->Q c s)->KatLex B.prog B.w A b fin Q (vs.zip ws) i s
 |[],[],us,zs,i,Q,hv,hw,h1,h2,hc,hb,hf,h=>by
  clear hu h1 h2 hc hb;cases hv;cases hw;subst hf
  exact h _ ⟨λh=>by simp at h,λh=>absurd h not_lt_nil⟩
 |[],w::ws,us,zs,i,Q,hv,hw,h1,h2,hc,hb,hf,h=>by
  clear hu h1 h2 hc hb;cases hv;cases hw;clear a a_1;subst hf
  exact h _ ⟨λ_=>lt_nil_cons,λ_=>by simp⟩
 |v::vs,[],us,zs,i,Q,hv,hw,h1,h2,hc,hb,hf,h=>by
  clear hu h1 h2 hc hb;cases hv;clear a a_1;cases hw;subst hf
  exact h _ ⟨λh=>by simp at h,λh=>absurd h not_lt_nil⟩
 |v::vs,w::ws,us,zs,i,Q,hv,hw,h1,h2,hc,hb,hf,h=>by
  cases hv with
  | @cons _ u _ us q1 hv=>
   cases hw with
   | @cons _ z _ zs q2 hw=>
    refine iK (oK hc) λc1 c2=>?_
    show KatLex B.prog B.w A b fin Q ((v,w)::vs.zip ws) i s
    refine kat_cons (IM (h1 u (.head _)) (h2 z (.head _)) q1 q2 (by exact u3 hu) ?_)
    by_cases he:u=z
    .clear q1 q2 hc hb c1;subst he
     rw [decide_eq_true rfl]
     refine kat_yes (CB hu hv hw (λy hy=>h1 y (.tail _ hy)) (λy hy=>h2 y (.tail _ hy)) (c2 rfl) (λ_ h0=>absurd h0 (tW _)) (by simpa using hf) λc hcz=>h c ?_)
     rw [hcz,tp]
     exact ⟨λh=>.inr ⟨rfl,h⟩,λh=>h.elim (λh=>h.irrefl.elim) λh=>h.2⟩
    .rw [decide_eq_false he]
     have hlt:∀c:Bool,(c=true↔Lt u z)->Q c s:=λc hcz=>h c (by
      rw [hcz,tp]
      exact ⟨.inl,λh=>h.elim id λh=>absurd h.1 he⟩)
     refine kat_no ?_
     by_cases hbi:(b&&i==0)=true
     .rw [hbi]
      simp only [eV,beq_iff_eq] at hbi
      clear hu hf hv h1 hw h2 hc h c1 c2 he;refine iK (hb hbi.1 hbi.2 _ _ _ _ rfl rfl) λzz1 zz2=>?_;refine j_ zz1 λn zz1=>?_;subst zz1;refine j_ zz2 λn' zz1=>?_;clear zz2;subst zz1
      clear hbi hb;refine rY v (gn q1) λt=>?_
      clear q1;refine rY w (gn q2) λt'=>?_
      exact oneLt_int (hlt _ (by rw [decide_eq_true_iff];exact Mine.lt_int.symm))
     .rw [l_] at hbi
      rw [hbi]
      refine kat_one v w ?_
      exact Rt d (h1 u (.head _)) (h2 z (.head _)) q1 q2 c1 hu λc hcz=>hlt c hcz
theorem sE (q:hU c H aj j) (b:a<aj.length):RV c H (aj.getD a .none) (j.getD a .none):=by
 have e:=q.length
 rw [jY b,jY (by exact fA b e)]
 obtain ⟨v,d,r⟩:=q.get (i:=a) (x:=j[a]) (df (by exact fA b e))
 rw [df b] at d
 obtain rfl:=d3 d;exact r
theorem Mm (q:hU c H aj j) (h:∀o∈j,∃y d,o= .tup (y::d)):∃b,KatTups H aj b/\b.length=aj.length/\∀f∈b,∃y d,AV.tup (y::d)∈j/\RV c H f y:=by
 induction aj generalizing j with
 |nil=>cases q;exact gq [] trivial rfl (by (repeat intro _);contradiction)
 |cons k aj t=>
  cases q with
  | @cons _ o _ j q r=>
   obtain ⟨b,v,u,w⟩:=t r λy C=>h y (.tail _ C)
   refine qX (h o (.head _)) λy d D=>?_;subst D
   refine g0 k (iB q) λa G n e l p=>?_
   refine eS (p.get (i:=0) (x:=y) rfl) λf s B=>?_
   rw [gE] at s
   refine gq (f::b) (KatTups.cons e rfl rfl s v) (congrArg rW u) (λg m=>?_)
   clear t r v u h q e l p s;rcases eK.mp m with rfl |m
   .exact nA y d (.head _) B
   .refine i5 (w g m) λz A F E=>?_
    exact nA z A (.tail _ F) E
theorem Fn (h:j.Pairwise gV):∀x∈j,∀y∈j,gV x y:=by
 induction h with
 |nil=>intro x b;exact (ee b).elim
 | @cons a l e _ g=>
  intro x b y c
  rcases eK.mp b with f |b
  .rcases eK.mp c with d |c
   .exact .inr (.inl (f.trans d.symm))
   .rw [f];exact e y c
  .rcases eK.mp c with d |c
   .rw [d];exact (e x b).symm
   .exact g x b y c
theorem pO (h:qY j):∀x∈j,oN 4 x:=λx a=>by
 rcases h with h |h
 .refine rY x (h x a) λi=>?_;exact .int _ i
 .exact (h x a).1
theorem Fo {B:Base} {s:eL} {A:jc} {a:gX} {ks:List eH} {xs:List AV} (hu:A.units+60<vz) (q:hU B s.heap ks xs) (hs:qY xs) (hc:xs.Pairwise gV) (hf:∀o,s.heap.get? a=some o->¬f' o):Ml B A a ks (rk xs) s:=λh2 s' hb=>by
 have q':hU B s'.heap ks xs:=q.but hb hf
 have hl:=q'.length
 have hk:=pO hs
 have fin:∀{i j:Nat} {c:Bool} {C:Bool->eL->Prop},i<ks.length->j<ks.length->C (decide (rk xs i<rk xs j)) s'->(c=true↔Lt (xs.getD i .none) (xs.getD j .none))->C c s':=λ{i j c C} hi hj h hcz=>by
  have:c=decide (rk xs i<rk xs j):=by
   rw [BE,hcz,decide_eq_true_iff]
   exact (Qw hk hc (by exact fA hi hl) (by exact fA hj hl)).symm
  rw [this];exact h
 rcases hs with hs |hs
 .refine kas_kind (T:=.type "int") h2 (λv hv=>?_) (by decide) (by decide) ⟨rfl,λi j C hi hj h=>?_⟩
  .clear hu q hc hf h2 hb hk fin;obtain ⟨i,hi,rfl⟩:=qS hv
   have:=sE q' hi
   rw [jY hi,jY (by exact fA hi hl)] at this
   clear q' hv;refine j_ (hs xs[i] (fN _)) λn hn=>?_
   rw [hn] at this
   refine j_ (gn this) λt ht=>?_
   rw [ht]
   exact nx rfl
  .unfold Se
   have r1:=sE q' hi
   have r2:=sE q' hj
   refine j_ (hs (xs.getD i .none) (by rw [jY (by exact fA hi hl)];exact fN _)) λn1 e1=>?_
   refine j_ (hs (xs.getD j .none) (by rw [jY (by exact fA hj hl)];exact fN _)) λn2 e2=>?_
   have hfin:=fin (c:=decide (n1<n2)) hi hj h (by rw [e1,e2,decide_eq_true_iff];exact Mine.lt_int.symm)
   rw [e1] at r1
   rw [e2] at r2
   refine j_ (gn r1) λt1 e1=>?_
   refine j_ (gn r2) λt2 e2=>?_
   rw [e1,e2,keyLt'_oneType]
   exact oneLt_int hfin
 .have hall:=Fn hc
  obtain ⟨fs,t1,t2,t3⟩:=Mm q' λx hx=>(hs x hx).2
  have kinds:(∀y ys,AV.tup (y::ys)∈xs->∃n,y= .int n)\/(∀y ys,AV.tup (y::ys)∈xs->∃ws,y= .tup ws):=by
   refine Cb (hs (xs[0]'(by exact fA (pI h2) hl)) (fN _)) λhk0 y0 ys0 e0=>?_
   have h0:AV.tup (y0::ys0)∈xs:=e0▸fN _
   have hd:oN 3 y0:=by
    rw [e0] at hk0
    cases hk0 with
    |tup _ _ hx=>exact hx y0 (.head _)
   cases hd with
   |int _ i=>
    refine .inl λy ys hy=>?_
    have c:=(oK (hall _ h0 _ hy)).1
    clear hu q hc hf h2 hb q' hl hk fin hs hall t1 t2 t3 hk0 e0 h0 hy;rcases c with c |c |c
    .rcases c with ⟨⟩;exact ⟨_,rfl⟩
    .exact ⟨_,c.symm⟩
    .rcases c with ⟨⟩;exact ⟨_,rfl⟩
   |tup _ us _=>
    refine .inr λy ys hy=>?_
    have c:=(oK (hall _ h0 _ hy)).1
    clear hu q hc hf h2 hb q' hl hk fin hs hall t1 t2 t3 hk0 e0 h0 hy;clear a_1;rcases c with c |c |c
    .rcases c with ⟨⟩<;>exact ⟨_,rfl⟩
    .exact ⟨_,c.symm⟩
    .cases c<;>exact ⟨_,rfl⟩
  have ask:∀(b:Bool),(b=true->∀y ys,AV.tup (y::ys)∈xs->∃n,y= .int n)->∀i j (C:Bool->eL->Prop),i<ks.length->j<ks.length->C (decide (rk xs i<rk xs j)) s'->Se B.prog B.w A (tuples' b) ks i j C s':=λb hb i j C hi hj h=>by
   unfold Se
   have m1:xs.getD i .none∈xs:=by rw [jY (by exact fA hi hl)];exact fN _
   have m2:xs.getD j .none∈xs:=by rw [jY (by exact fA hj hl)];exact fN _
   have r1:=sE q' hi
   have r2:=sE q' hj
   have hcm:=hall _ m1 _ m2
   have hfin:=λc=>fin (c:=c) hi hj h
   refine Cb (hs _ m1) λk1 y1 ys1 e1=>?_
   refine Cb (hs _ m2) λk2 y2 ys2 e2=>?_
   rw [e1] at k1 m1
   rw [e2] at k2 m2
   rw [e1,e2] at hfin hcm
   rw [e1] at r1
   rw [e2] at r2
   refine mW (iB r1) λa1 i1 n1 v1 o1 _ p1=>?_
   refine mW (iB r2) λa2 i2 n2 v2 o2 _ p2=>?_
   rw [v1,v2]
   cases k1 with
   |tup _ _ k1=>
    cases k2 with
    |tup _ _ k2=>
     refine kat_lt o1 rfl o2 rfl (CB (d:=3) (by exact ul 40 hu rfl) p1 p2 k1 k2 hcm (λhb' _ u z us' zs' eu ez=>?_) (by simp) hfin)
     obtain ⟨rfl,rfl⟩:=fo eu
     obtain ⟨rfl,rfl⟩:=fo ez
     exact ⟨hb hb' _ _ m1,hb hb' _ _ m2⟩
  rcases kinds with hi |ht
  .refine kat_kind (T:=.type "int") t1 (by exact EO (pI h2) t2) (λv hv=>?_) (by decide) ⟨rfl,ask _ λ_=>hi⟩
   refine i5 (t3 v hv) λy ys hy p=>?_
   refine j_ (hi y ys hy) λn zz1=>?_;subst zz1
   refine rY v (gn p) λt=>?_
   exact nx rfl
  .refine kat_kind (T:=.type "tuple") t1 (by exact EO (pI h2) t2) (λv hv=>?_) (by decide) ⟨rfl,ask _ λh=>absurd h (by decide)⟩
   refine i5 (t3 v hv) λy ys hy p=>?_
   refine j_ (ht y ys hy) λus zz1=>?_;subst zz1
   refine g0 v (iB p) λa1 i1 n1 o1 _ _=>?_
   exact (Looks.ld o1).andThen .now
theorem sa {r:AV->AV->Prop} (h:∀a b,r a b->r b a->a=b):∀{d f:List AV},d.Perm f->d.Pairwise r->f.Pairwise r->d=f
 |[],f,c,_,_=>by rw [c.nil_eq]
 |x::d,[],c,_,_=>by have:=c.length_eq;simp at this
 |x::d,y::f,c,i,g=>by
  have e:x=y:=by
   rcases eK.mp (c.mem_iff.mp (.head _)) with e |j
   .exact e
   .rcases eK.mp (c.mem_iff.mpr (.head _)) with e |k
    .exact e.symm
    .exact h x y ((jb.mp i).1 y k) ((jb.mp g).1 x j)
  subst e
  rw [sa h ((List.perm_cons x).mp c) (jb.mp i).2 (jb.mp g).2]
theorem CC (d:Fm aj.length cm) (c:dq.length=aj.length):(cm.toList.map λi=>dq.getD i dp).Perm dq:=by
 have a:(cm.toList.map λi=>dq.getD i dp).Perm ((eQ aj.length).map λi=>dq.getD i dp):=d.map _
 refine a.trans (Wz ?_)
 apply List.ext_getElem
 .simp [c]
 .intro i a b
  simp [b]
theorem ze (h:j.length=a) (k:Fm a cm) (w:yp (rk j) cm a) (B:∀c∈j,oN d c) (t:j.Pairwise gV):
 (cm.toList.map λi=>j.getD i .none).Pairwise λs b=>Lt s b\/s=b:=by
 rw [oz]
 intro i l v C A
 rw [zN,zN]
 have f:cm.toList.length=a:=by rw [eB,k.size]
 have n:i<a:=by simpa [f,k.size] using v
 have m:l<a:=by simpa [f,k.size] using C
 have o:∀{c} (g:c<cm.toList.length),cm.toList[c]<a:=λg=>eU.mp (k.mem_iff.mp (fN g))
 have u:=w i l (eA A) m
 have e:∀{c} (g:c<a),kR (rk j) cm c=rk j (cm.toList[c]'(by exact EO g f)):=λ{c} g=>by
  unfold kR
  rw [<-gE,df (by exact EO g f)];rfl
 rw [e n,e m] at u
 have p:=o (c:=i) (by exact EO n f)
 have r:=o (c:=l) (by exact EO m f)
 have z:=Fn t (j.getD (cm.toList[i]'(by exact EO n f)) .none) (by rw [jY (by exact EO p h)];exact fN _) (j.getD (cm.toList[l]'(by exact EO m f)) .none) (by rw [jY (by exact EO r h)];exact fN _)
 rcases z with q |q |q
 .exact .inl q
 .exact .inr q
 .have:=(Qw B t (by exact EO r h) (by exact EO p h)).mpr q
  exact absurd u (x9.mpr this)
theorem xr (d:oN a l) (c:Lt l af\/l=af) (b:Lt af l\/af=l):l=af:=by
 rcases c with c |c
 .rcases b with b |b
  .exact ((zd a d c b).irrefl).elim
  .exact b.symm
 .exact c
theorem Fp (d:aj.length=j.length) (q:∀i,i<aj.length->RV c H (aj.getD i .none) (j.getD i .none)):hU c H aj j:=by
 induction aj generalizing j with
 |nil=>clear q;induction j using ej with
  |nil=>exact .nil
  |cons _ _=>contradiction
 |cons v aj a=>
  induction j using ej with
  |nil=>contradiction
  |cons x j=>exact .cons (q 0 (by simp)) (a (by simpa using d) λi b=>q (i+1) (by simpa using b))
theorem Fq (q:hU c H aj j) (a:∀i∈C,i<aj.length):hU c H (C.map λi=>aj.getD i .none) (C.map λi=>j.getD i .none):=by
 induction C with
 |nil=>exact .nil
 |cons i C b=>exact .cons (sE q (a i (.head _))) (b λd e=>a d (.tail _ e))
theorem vQ (P:gU c) (O:L.handled=none) (r:R c b m) (v:RV c m.heap J l) (h:pg b cW l) {Q:List eH->eL->Prop} (w:∀x o y,fH m y->hU c y.heap x o->cW o->x.length<=fE->Q x y):f_ (hJ c.prog c.w) L (collect J) Q aG m:=by
 induction h with
 | @tup o h=>
  refine g0 J (iB v) λa T k e f q=>?_
  refine R6 a (.inr rfl) e rfl rfl (λp j=>?_) (a_ f hX)
  have g:fH m {m with heap:=p}:=qA j
  exact w _ o _ g (q.grow g) h (by rw [eB];exact f)
 | @list a o e h=>
  obtain rfl:=gM v
  refine gp (r.isList e) λS k g q f U E=>?_
  refine R6 a (.inl rfl) g rfl rfl (λp j=>?_) (a_ (by exact n1 E f) hX)
  have g:fH m {m with heap:=p}:=qA j
  exact w _ o _ g (q.grow g) h (by rw [eB,E];exact f)
 | @dict a u e n h=>
  obtain rfl:=gM v
  refine iK (r.oP e) λd f=>?_
  refine gi (d.GL n) λA I q C=>?_
  have F:A.length=u.length:=by have:=congrArg fi C;simpa using this.symm
  refine kdu_collect (kdl_dict (knd:=t8 c) (kvs:=A) (ep:=A.length) (r.uB P e)) O I (a_ (by exact n1 F f) hX) λp K z j D=>?_
  have g:fH m {m with heap:=p,toks:=K}:=qA j
  have s:z.toList.length=(u.map (·.1)).length:=by rw [eB,D.1,F,bb]
  refine w _ (u.map (·.1)) _ g (Fp s λi n=>?_) h (by rw [s,bb];exact f)
  have M:i<z.size:=by simpa using n
  obtain ⟨N,V,H,j⟩:=D.2 i z[i] (ow M)
  refine j_ (int_is j) λt G=>?_
  rw [jY n,jY (by exact fA n s),Array.getElem_toList,G]
  have B:(u.map (·.1))[i]? =some (.int N):=by rw [C,ed,H];rfl
  rw [df (by exact fA n s)] at B
  rw [d3 B]
  exact .int _ _
theorem J0 (HB:gU c):zF c 1:=λG ku st Q g s h F K U=>by
 replace h:=qH h;obtain ⟨x,rfl,h⟩:=h
 refine jj g U.one λv T=>?_
 have Y:=F.Ax
 refine Calls.call_function_entry Yz Ww Wx (args_sorted1 _) ?_
 unfold vY.«sorted»
 refine b5 (m:=YF "sorted" 1 1 _) (dj ?_)
 refine b5 (vQ (L:=G.in1) HB F.handled K T h λg O f k w S hl=>?_)
 refine Lh S λC E J L km=>mV km λD V Z=>?_
 have t:=w.length
 have ky:=nC
 refine b5 (zM ?_ (by exact n1 t (Ol C)))
 have l:=jw f (listOf g.toArray 0)
 show f_ _ _ _ _ _ {f with heap:=f.heap.push (listOf g.toArray 0)}
 have u:({f with heap:=f.heap.push (listOf g.toArray 0)}:eL).heap.get? f.heap.objs.size=some (gr "list" g.toArray 0):=eW _ rfl
 have H:∀j,({f with heap:=f.heap.push (listOf g.toArray 0)}:eL).heap.get? f.heap.objs.size=some j->¬f' j:=λj e=>by rw [u] at e;obtain rfl:=d3 e;exact qG _ _
 refine b5 (f5 (nc U5 (ei _ u rfl) UB ?_ (args_list_sort _)))
 refine DH u (by exact S9 t C) (Fo (by show G.units+1+1+60<vz;exact ul 62 Y rfl) (w.grow l) E J H) λp W kx B kn n kq=>ei _ rfl ?_
 refine dj (ei _ rfl ?_)
 have y:=pO E
 have e:(p.toList.map λi=>O.getD i .none)=L:=by
  have I:=CC B (dp:=AV.none) (dq:=O) (by exact t.symm)
  refine sa (r:=λa b=>(Lt a b\/a=b)/\oN 4 a) (λa b N X=>xr N.2 N.1 X.1) (I.trans D.symm) ?_ ?_
  .exact (ze (by exact t.symm) B kn y J).imp_of_mem λz _ h=>⟨h,y _ (I.mem_iff.mp z)⟩
  .exact V.imp_of_mem λz _ h=>⟨h,y _ (D.mem_iff.mp z)⟩
 have kl:fH s W:=⟨λb j M=>n.keep b j (λq=>by
  subst q
  have:=k.keep _ _ M
  rw [ik] at this;contradiction) (l.keep _ _ (k.keep _ _ M)),(n.gens.trans l.gens).trans k.gens,(n.os.trans l.os).trans k.os⟩
 have R:s.heap.get? f.heap.objs.size=none:=by
  induction e:s.heap.get? f.heap.objs.size using d7 with
  |none=>rfl
  |some j=>have:=k.keep _ _ e;rw [ik] at this;contradiction
 refine uF (ay:=.list L) K kl R (.list kq ?_ ?_) (by (repeat intro _);contradiction) Z
 .rw [<-e]
  exact Fq ((w.grow l).but n H) λi P=>eU.mp (B.mem_iff.mp P)
 .rw [D.length_eq];unfold fE;exact a_ (eA C) (by decide)
theorem AF (b:bB.Nodup) (h:bB[a]? =some ao):(bB.zip aj).lookup ao=aj[a]? :=by
 induction bB generalizing aj a with
 |nil=>contradiction
 |cons y bB c=>
  induction aj using ej with
  |nil=>simp
  |cons v aj=>
   rw [eT] at b
   induction a using ji with
   |zero=>clear c b;(injection h with h;subst h);simp
   |succ a=>
    have h:bB[a]? =some ao:=h
    have d:ao≠y:=λe=>b.1 (e▸(fh h))
    rw [o_,eM,beq_false_of_ne d]
    exact c b.2 h
theorem lookup_append_none {c:List (j7×h)} (a:e8.lookup ao=none):(e8++c).lookup ao=c.lookup ao:=by
 induction e8 with
 |nil=>rfl
 |cons p e8 d=>
  obtain ⟨y,v⟩:=p
  rw [eM] at a
  rw [iI,eM]
  induction b:ao==y with
  |true=>rw [b] at a;contradiction
  |false=>rw [b] at a;exact d a
theorem we {d:List (j7×h)} (a:e8.lookup ao=some dp):(e8++d).lookup ao=some dp:=by
 induction e8 with
 |nil=>contradiction
 |cons p e8 c=>
  obtain ⟨y,w⟩:=p
  rw [eM] at a
  rw [iI,eM]
  induction b:ao==y with
  |true=>rw [b] at a;exact a
  |false=>rw [b] at a;exact c a
theorem yq (e:bB.Nodup) (f:aj.length=bB.length) {b:List (j7×eH)} (a:∀(i:Nat) x,bB[i]? =some x->b.lookup x=aj[i]?):bB.filterMap (λn=>(b.lookup n).map (n,·))=bB.zip aj:=by
 induction bB generalizing aj with
 |nil=>rfl
 |cons x bB d=>
  induction aj using ej with
  |nil=>contradiction
  |cons v aj=>
   have c:=a 0 x rfl
   simp only [tM] at c
   rw [qT,c]
   show (x,v)::_=(x,v)::_
   rw [d (eT.mp e).2 (by simpa using f) λi y g=>a (i+1) y (by simpa using g)]
   rfl
noncomputable def CD (n:Nat) (vs ds:List eH):List Value:=vs++ds.drop (vs.length+ds.length -n)
variable {cZ:GV} {d4:List Arg}
theorem IP {a:List eH} {Q:List (j7×eH)->eL->Prop} (I:cZ.params=⟨[],d4,none,[],[],none,az⟩) (A:(argNames d4).Nodup) (W:∀{N:Option (Array eH)->eL->Prop},(∀o,(o.getD #[]).toList=a->N o m)->f_ (hJ c.prog c.w) L (seqItems? cZ.defaults) N aG m) (b:aj.length<=d4.length) (g:d4.length<=aj.length+a.length) (E:a.length<=d4.length) (h:Q ((argNames d4).zip (CD d4.length aj a)) m):f_ (hJ c.prog c.w) L (PySem.bindArgs cZ ⟨aj,[]⟩) Q aG m:=by
 have z:d4.map (·.arg)=argNames d4:=rfl
 have l:(argNames d4).length=d4.length:=bb _
 rcases cZ with ⟨_,_,ps,_,_,_,_,_,_,_,_,_,_,_,_⟩
 have I:ps=_:=I
 subst I
 refine b5 (dj (b5 (W λo D=>?_)))
 clear W
 refine nU (decide_eq_false λq=>iY.mpr b ?_) ?_
 .have q:=of_decide_eq_true ((qx.mp q).1)
  exact c4 (gu (bb _).symm) q
 have F:a.drop (a.length -d4.length)=a:=by rw [show a.length -d4.length=0 by exact vB E];rfl
 have M:SX (λn=>(pd n ((argNames d4).zip aj)).isNone) (U9 (d4.length -a.length) (argNames d4))=[]:=by
  rw [jA]
  intro x k
  obtain ⟨f,w,rfl⟩:=qS k
  have P:f<d4.length -a.length:=by rw [fR] at w;exact eh w (g7 _ _)
  rw [List.getElem_take,AF A (a:=f) (df (by exact EO (eh P (jQ _ _)) l)),df (by exact eh P (j8 g))]
  simp
 refine nU (decide_eq_false λq=>?_) ?_
 .have q:(!(SX (λn=>(pd n ((d4.map (·.arg)).zip aj)).isNone) (U9 ((d4.map (·.arg)).length - (v5 ((o.getD #[]).toList.length - (d4.map (·.arg)).length) (o.getD #[]).toList).length) (d4.map (·.arg)))).isEmpty)=true:=q
  rw [z,D,l,F,M] at q;contradiction
 refine b5 ?_
 refine qQ _
  (λH slots C=>C=m/\∃j,d4.length -a.length<=j/\j<=d4.length/\H=((argNames d4).drop j).zip (a.drop (j - (d4.length -a.length)))/\
   ∀(f:Nat) x,(argNames d4)[f]? =some x->slots.lookup x=if f<aj.length then aj[f]? else if f<j then a[f - (d4.length -a.length)]? else none)
  _ ?_ ?_ _ _ (wU rfl (d4.length -a.length) (eJ _) (jQ _ _) (by show (v5 ((d4.map (·.arg)).length - (v5 ((o.getD #[]).toList.length - (d4.map (·.arg)).length) (o.getD #[]).toList).length) (d4.map (·.arg))).zip (v5 ((o.getD #[]).toList.length - (d4.map (·.arg)).length) (o.getD #[]).toList)=_;rewrite [z,D,l,F,jB,rG];rfl) (λf x k=>?_))
 .intro Y H slots C kl;obtain ⟨x,d⟩:=Y;refine Ii C kl λj t K p r=>?_
  have S:j<d4.length:=by
   rcases j' j d4.length with q |q
   .exact q
   .rw [pD (by exact le_of_eq_of_le l q)] at p;simp at p
  have k:(argNames d4)[j]? =some (argNames d4)[j]:=df (by exact fA S (id (rH l)))
  have O:a[j - (d4.length -a.length)]? =some a[j - (d4.length -a.length)]:=df (by exact bk E t S)
  rw [drop_cons k,drop_cons O,o_] at p
  refine iK (fo p) λR U=>?_
  refine KV x d (k7 R) ?_
  have u:=r j _ k
  have G:H=((argNames d4).drop (j+1)).zip (a.drop (j+1 - (d4.length -a.length))):=by rw [U,show j+1 - (d4.length -a.length)=j - (d4.length -a.length)+1 by exact OB t]
  by_cases B:j<aj.length
  .rw [if_pos B,df B] at u
   refine nU (by rw [u];rfl) (dj (wU rfl (j+1) (by exact pK t) (by assumption) G (λf y s=>?_)))
   rw [r f y s]
   by_cases b:f<aj.length
   .rw [if_pos b,if_pos b]
   .rw [if_neg b,if_neg b]
    by_cases g:f<j
    .rw [if_pos g,if_pos (by exact Ac 1 g)]
    .rw [if_neg g,if_neg (by exact λq=>b (eh q B))]
  .rw [if_neg B,if_neg (jg _)] at u
   refine wpAny_ite_true (by rw [u];rfl) (dj (wU rfl (j+1) (by exact pK t) (by assumption) G (λf y s=>?_)))
   have w:=r f y s
   by_cases J:f=j
   .clear A b g z D F M h K r U p R G w;subst J
    rw [s] at k
    have kq:=d3 k
    rw [if_neg B,if_pos (fG _),kq,lookup_append_none u,O]
    simp
   .have X:y≠(argNames d4)[j]:=λe=>J ((iR (ew.mp s).1 A).mp (s.trans (by rw [e,k])))
    have Z:pd y [((argNames d4)[j],a[j - (d4.length -a.length)])]=none:=by rw [eM,beq_false_of_ne X];rfl
    have:(slots++[((argNames d4)[j],a[j - (d4.length -a.length)])]).lookup y=slots.lookup y:=by
     induction T:slots.lookup y with
     |none=>rw [lookup_append_none T,Z]
     |some v=>exact we T
    rw [this,w]
    by_cases b:f<aj.length
    .rw [if_pos b,if_pos b]
    .rw [if_neg b,if_neg b]
     by_cases g:f<j
     .rw [if_pos g,if_pos (by exact Ac 1 g)]
     .rw [if_neg g,if_neg (by exact λq=>g (nh (eX q) J))]
 .clear D F M;intro slots C km;refine Ii C km λj t K p r=>?_
  have kn:j=d4.length:=by
   rcases j' j d4.length with q |q
   .rw [drop_cons (df (by exact fA q (id (rH l)):j<(argNames d4).length)),drop_cons (df (by exact bk E t q:j - (d4.length -a.length)<a.length)),o_] at p
    contradiction
   .exact ir K q
  refine b5 (dj (nU rfl (dj ?_)))
  show Q (vJ (λn=>(pd n slots).map (n,·)) (d4.map (·.arg)++[])) m
  rewrite [eR,z,yq (aj:=CD d4.length aj a) A (by unfold CD;rw [bh,ey];exact WL b g l) λf x k=>?_]
  .exact h
  .have V:=(ew.mp k).1
   rw [r f x k]
   unfold CD
   by_cases b:f<aj.length
   .rw [if_pos b,eN b]
   .rw [if_neg b,if_pos (by exact EO (fA V l) kn),fj (by exact mM b),pa]
    congr 1;exact WM g E b
 .show pd x ((d4.map (·.arg)).zip aj)=_
  rw [z,AF A k]
  have V:=(ew.mp k).1
  by_cases b:f<aj.length
  .rw [if_pos b]
  .rw [if_neg b,if_neg (by exact λq=>b (eh q (j8 g))),i_ (by exact mM b)]
structure VA (B:Base) (k:Nat) (d:Def) (dv:List AV):Prop where
 obj:∃o fd,B.h₀.get? (B.fa k)=some o/\o.data= .func fd/\fd.params=d.params/\fd.body= .stmts d.body/\fd.scope=d.scope/\fd.globals=iD/\fd.closure=[]/\fd.builtins=j0/\
  B.h₀.CodeRec fd.code fd.qualname/\((fd.defaults= .none/\dv=[])\/∃t items n,fd.defaults= .ref t/\B.h₀.get? t=some (gr "tuple" items n)/\hU B B.h₀ items.toList dv)/\
  (BN d.scope.names=true->fd.code= .ref B.lc/\fd.qualname++(".<locals>.":j7)=B.EW)
 dl:dv.length<=d.params.args.length
structure TM (S:gm->List zu->w'->Prop) (d:Def) (F:mN) (as:List Arg) (dfl:List gc):Prop where
 par:d.params=⟨[],as,none,[],[],none,dfl⟩
 sc:Ao d.scope=true
 free:∀x,(x,fB)∉d.scope.names
 nd:(argNames as).Nodup
 st:(argNames as).map (oj d.scope.names)=F.params.map some
 len:F.size=(slots d.scope.names).length
 body:S d.scope.names d.body F.body
noncomputable def AG (S:gm->List zu->w'->Prop) (B:Base):Prop:=∀k F,PG.fns[k]? =some F->F=noFn\/∃(d:Def) (as:List Arg) (dfl:List gc),TM S d F as dfl/\VA B k d F.Im
theorem zg:∀{j:List j7} {l:List Nat} {e:List eH} {a:List AV} {m:MM} {s:eL},j.map (oj v)=l.map some->FR c ab v m b s->R c b s->hU c s.heap e a->a.length=l.length->
 ∀{Q:PUnit->eL->Prop},(∀f,FR c ab v (pE m l a) b f->R c b f->zG c ab v b s b f->Q ⟨⟩ f)->WE c L (forIn (j.zip e) BJ λ(x:j7×eH) (_:PUnit)=>do Sx ab x.1 x.2;pure (iN BJ)) Q s:=by
 intro w
 induction w with
 |nil=>
  intro l e a m s d F r q g Q h
  have:l=[]:=by simpa using d.symm
  clear d;subst this
  have:a=[]:=gT.mp g
  clear g;subst this;cases q
  exact dj (h s F r .refl)
 |cons x j o=>
  intro l e a m s d F r q g Q h
  induction l using ej with
  |nil=>simp at d
  |cons i l=>
   simp only [eG,ix] at d
   induction a using ej with
   |nil=>contradiction
   |cons y a=>
    cases q with
    | @cons D _ e _ p t=>
     rw [o_,qL]
     refine b5 (b5 (pN F r d.1 p λf k A n=>dj ?_))
     exact o d.2 k A (t.Cu r F n) (by simpa using g) λu B C z=>h u B C (n.trans k z)
theorem Hp {a:List j7} (h:Dq bB a=some C):a.map (r6 bB)=C.map some:=by
 induction a generalizing C with
 |nil=>(injection h with h;subst h);rfl
 |cons x r b=>
  refine eS (jh.mp h) λi c h=>?_
  refine iQ C (fV.mp h) λe d=>?_
  rw [eG,c,b d];rfl
theorem wg (h:qZ [] v=true):∀x,(x,fB)∉v:=λx a=>by
 rcases uH h x a with h |h<;>contradiction
theorem DI (c:(v.map (·.1)).Nodup) (e:∀ao,(ao,fB)∉v) (h:r6 (slots v) ao=some a):oj v ao=some a:=by
 refine eS (Hd (fh (ph h)) c) λk b f=>?_
 unfold oj
 rw [b]
 have d:Qr k=true:=by
  induction k with
  |«local»=>rfl
  |cell=>rfl
  |free=>exact absurd ((jT c).mp b) (e ao)
  |_=>contradiction
 simp only [d,if_true]
 exact h
theorem DJ (d:Ao aJ=true) (e:∀x,(x,fB)∉aJ.names) (f:Dq (slots aJ.names) (argNames d4)=some C):(argNames d4).map (oj aJ.names)=C.map some:=by
 refine qk (q7 d) λ_ _ _ h _=>?_
 have b:=Hp f
 rw [<-b]
 apply fk
 intro x g
 have c:r6 (slots aJ.names) x∈(argNames d4).map (r6 (slots aJ.names)):=ck.mpr (ei x g rfl)
 rw [b] at c
 refine eS (ck.mp c) λi _ a=>?_
 rw [<-a]
 exact DI h e a.symm
theorem zh (a:gU c) (r:R c b m):m.heap.NoLimit:=eS a.nolimit λe d h=>(ei e (d.keeps r.old) h)
theorem mO.deeper (b:mO (a+1) L) (c:zw):mO a (L.deeper c):=⟨by
 have:=b.depth
 show L.depth+1+10*a<=900
 exact rm this rfl,by have:=b.units;show L.units+3+100*a<=9000;exact rm this rfl,b.handled⟩
variable {i:Ak}
theorem Pe (a:bindArgs noFn j=some e) (h:jo PG i noFn.body e b ag):False:=by
 refine iK (Lu a) λ_ a=>?_
 subst a
 refine eS h λv h _=>?_
 contradiction
theorem Pf {S:gm->List zu->w'->Prop} (HB:gU c) (HF:AG S c) (kD:2<=a->∀ns ss kB,S ns ss kB->O5 c a ns ss kB) (h:eE PG (a+1) (.fn d) j b n) (hr:mO (a+1) L) (r:R c b m) (qs:hU c m.heap aj j) (hZ:∀v O,k4 c b m n v O->bG (.ok (.ret v)) O):sr (hJ c.prog c.w) L (.call (.ref (c.fa d)) ⟨aj,[]⟩) bG m:=by
 refine Dk h λkG F lM hF T h=>?_
 have lg:=kD kG
 .rcases HF d F hF with rfl |⟨l,D,lJ,z,W⟩
  .exact (Pe T h).elim
  .clear HF kD kG hF;obtain ⟨ps,dv,sz,g⟩:=F
   obtain ⟨hp,kJ,lA,lj,kl,kq,U⟩:=z
   .dsimp only at kl kq U W h
    subst kq
    refine qk (q7 kJ) λk1 k2 k3 J k5=>?_
    refine qX W.obj λo p lr=>C_ lr λho lC kN lz V lH kM kZ lD lF lE=>?_
    .refine iK (Lu T) λX T=>?_
     subst T
     .have lx:=r.old _ _ ho
      have km:ps.length=D.length:=by
       have k:=congrArg fi kl
       rw [bb,bb,bb] at k
       exact k.symm
      have Y:=qs.length
      obtain ⟨C,kz,kH⟩:∃C:List eH,hU c m.heap C (dv)/\∀{Q':Option (Array eH)->eL->Prop},(∀o:Option (Array eH),(o.getD #[]).toList=C->Q' o m)->f_ (hJ c.prog c.w) L.in1 (seqItems? p.defaults) Q' (λe O=>bG (.error e) O) m:=by
       rcases lF with ⟨e1,Z⟩ |⟨t,kF,a,e1,Z,e3⟩
       .refine ei [] (by rw [Z];exact .nil) (λI=>?_)
        rw [e1]
        exact dj (I none rfl)
       .refine ei kF.toList (e3.mono λly o e _=>r.old ly o e) (λI=>?_)
        rw [e1]
        exact sU (r.old _ _ Z) rfl (I (some kF) rfl)
      have kn:=kz.length
      have kK:hU c m.heap (CD D.length aj C) (j++(dv).drop (j.length+(dv).length -ps.length)):=by
       unfold CD
       rw [Y,kn,km]
       exact qs.append (kz.drop _)
      have h3:=X.1
      rw [bh,ey] at h3
      have k:aj.length<=D.length:=by exact Vb (n1 Y X.2) km.symm
      have H:D.length<=aj.length+C.length:=by exact WN h3 km Y kn
      have kI:p.scope.isCoroutine=false:=by rw [V];exact k3
      have kP:p.scope.isGenerator=false:=by rw [V];exact k2
      have lI:C.length<=D.length:=by have:=W.dl;rw [show l.params.args=D by rw [hp]] at this;rw [kn];exact this
      refine codeAny_call_function hr.Tp lx lC kI kP lz (lD.keeps r.old) ?_
      refine IP (kN.trans hp) lj kH k H lI ?_
      rw [V,lH,kM,kZ]
      refine el (AD (c:=c) (L:=L.in1) (m:=m) (Q:=λlh P=>P.heap.NoLimit/\sr (hJ c.prog c.w) L (.func l.body lh) bG P) J ?_) (λ_ _ q=>q) λ_ _ e=>e.elim
      intro E G kX M
      have lq:FR c (vU l.scope E iD G (p.qualname++".<locals>.") (some (c.fa d)) p.code none j0) l.scope.names (gk (slots l.scope.names).length none) b kX:=by
       refine DG r J M _ rfl rfl k1 rfl rfl (λx d u=>.inl ?_) k5 (λx u=>absurd u (lA x)) (λx kU u=>by contradiction) (λx y kU u=>by contradiction) (λi x v hi hv=>?_) (by simp) λkT=>lE kT
       .show pd x l.scope.names=some d
        rw [<-sA];exact u
       .rw [tL] at hv
        split at hv<;>first |contradiction |(injection hv;contradiction)
      have kO:=r.grow M.grow
      refine zg kl lq kO (kK.grow M.grow) X.1 λP lu kx ku=>⟨zh HB kx,?_⟩
      refine codeAny_func ?_
      refine el (lg _ _ _ U (L.deeper (vU l.scope E iD G (p.qualname++".<locals>.") (some (c.fa d)) p.code none j0)) _ _ b P _ (hr.deeper _) lu kx h) (λf lB ζ=>?_) λ_ _ e=>e.elim
      refine Ig ζ λfl lN lK kW=>qk kW λhf lL kQ ky lG=>j_ lG λkV kY=>iK kY λkC I=>?_
      refine hZ _ lB ⟨y8 fl,kV,?_,kQ.le kC,St.le ⟨λg o e N=>?_,λg U=>?_⟩ kC,I⟩
      .induction hf with
       |next=>exact .none
       |brk=>exact .none
       |ret q=>exact q
      .have K:¬Own l.scope.names (vU l.scope E iD G (p.qualname++".<locals>.") (some (c.fa d)) p.code none j0) g:=λw=>by
        rcases w with w |⟨x,u,z⟩
        .have w:g=E:=w
         rw [w,M.fresh] at e;contradiction
        .have z:G.lookup x=some g:=z
         refine gi (M.own x ((jT J).mp u)) λc' k H _=>?_
         rw [z] at k;(injection k with k;subst k)
         rw [H] at e;contradiction
       exact ky.keep g o (ku.keep g o (M.grow.keep g o e) N K) N K
      .rcases ky.foot g U with h |h
       .exact .inl h
       .induction e:m.heap.get? g with
        |none=>exact .inr rfl
        |some o=>
         refine .inl (gg λN=>?_)
         have K:¬Own l.scope.names (vU l.scope E iD G (p.qualname++".<locals>.") (some (c.fa d)) p.code none j0) g:=λw=>by
          rcases w with w |⟨x,u,z⟩
          .have w:g=E:=w
           rw [w,M.fresh] at e;contradiction
          .have z:G.lookup x=some g:=z
           refine gi (M.own x ((jT J).mp u)) λc' k H _=>?_
           rw [z] at k;(injection k with k;subst k)
           rw [H] at e;contradiction
         rw [ku.keep g o (M.grow.keep g o e) N K] at h
         contradiction
theorem R.Pg {B:Base} (r:R B b m) {c:Nat} (A:c<10):b.free (m.heap.objs.size+1)/\b.free m.heap.objs.size/\
 R B (b.set (m.heap.objs.size+1) (.inst c m.heap.objs.size [])) {m with heap:=(m.heap.push yU).push (ud (B.ca c) m.heap.objs.size)}/\
 St B b m (b.set (m.heap.objs.size+1) (.inst c m.heap.objs.size [])) {m with heap:=(m.heap.push yU).push (ud (B.ca c) m.heap.objs.size)}:=by
 have y:(m.heap.push yU).objs.size=m.heap.objs.size+1:=rE ..
 generalize v:m.heap.objs.size+1=p at y
 generalize w:m.heap.objs.size=i at v
 have l:m.heap.get? i=none:=by rw [<-w];exact ik _
 have k:m.heap.get? p=none:=get?_none_of_le (by exact n1 w (eA (fA (fG _) v)))
 have n:∀{d},m.heap.get? d=none->¬ic B b d/\B.h₀.get? d=none:=λh=>r.kh h
 have s:∀{d},m.heap.get? d=none->b.free d:=λ{d} h=>by
  have M:=(n h).1
  exact ⟨by
   induction e:b d with
   |none=>rfl
   |some P=>exact absurd (.inl (by rw [e];simp)) M,λx c t e=>M (.inr (.inl (qB x c t e)))⟩
 have G:p≠i:=by exact λq=>OA i (v.trans q)
 have F:p≠B.tab:=λe=>(n k).1 (.inr (.inr e))
 have I:i≠B.tab:=λe=>(n l).1 (.inr (.inr e))
 have g:fH m {m with heap:=(m.heap.push yU).push (ud (B.ca c) i)}:=⟨λd o e=>fm _ (fm _ e),rfl,rfl⟩
 have C:((m.heap.push yU).push (ud (B.ca c) i)).get? p=some (ud (B.ca c) i):=by rw [<-y];exact eW _ rfl
 have E:((m.heap.push yU).push (ud (B.ca c) i)).get? i=some (rx [] 0):=fm _ (by rw [<-w];exact eW _ rfl)
 have D:∀d,ic B (b.set p (.inst c i [])) d->ic B b d\/d=p\/d=i:=by
  clear r A y w v l k n s G F I g C E;rintro d (h |⟨a,z,t,h⟩ |h)
  .by_cases f:d=p
   .exact .inr (.inl f)
   .rw [gv f] at h;exact .inl (.inl h)
  .by_cases j:a=p
   .subst j;rw [gW] at h;cases (h);exact .inr (.inr rfl)
   .rw [gv j] at h;exact .inl (.inr (.inl (qB a z t h)))
  .exact .inl (.inr (.inr h))
 refine uu (s k) (s l) ⟨λa o e=>?_,λd o e=>g.keep _ _ (r.old d o e),λd f=>?_,λa z L t e=>?_,?_,r.tab.mono (λa o e _=>g.keep a o e) λo e=>g.keep _ o e,r.gens,r.os⟩ ⟨λd o e _=>g.keep d o e,λd f=>?_⟩
 .by_cases j:a=p
  .subst j;rw [gW] at e;(injection e with e;subst e)
   exact .inst C E .nil eI A
  .rw [gv j] at e;exact (r.objs a o e).grow g
 .rcases D d f with h |rfl |rfl
  .exact r.new d h
  .exact (n k).2
  .exact (n l).2
 .by_cases j:a=p
  .clear r A y w v k n F g C E D;subst j;rw [gW] at e;cases (e)
   refine iz (by rw [gv G.symm];exact (s l).1) I (λd c2 H u=>?_)
   by_cases f:d=a
   .exact f
   .rw [gv f] at u
    exact absurd u ((s l).2 d c2 H)
  .rw [gv j] at e
   refine mV (r.Cq a z L t e) λO N K=>?_
   have J:L≠p:=λq=>(s k).2 a z t (q▸e)
   refine iz (by rw [gv J];exact O) N (λd c2 H u=>?_)
   by_cases f:d=p
   .clear r A y w v k n G F I g C E D j O N K J;subst f;rw [gW] at u;cases (u)
    exact absurd e ((s l).2 a z t)
   .rw [gv f] at u;exact K d c2 H u
 .rw [gv (nz F)];exact r.vC
 .rcases D d f with h |rfl |rfl
  .exact .inl h
  .exact .inr k
  .exact .inr l
noncomputable def So (B:Base) (n:Nat):Prop:=∀(A:jc) (k:Nat) (args:List AV) (st:AS) (Q:AV->AS->Prop) (vs:List eH) (s:eL) (Z:Result->eL->Prop),
 eE PG n (.fn k) args st Q->mO n A->R B st s->hU B s.heap vs args->(∀v s',k4 B st s Q v s'->Z (.ok (.ret v)) s')->sr (hJ B.prog B.w) A (.call (.ref (B.fa k)) ⟨vs,[]⟩) Z s
theorem J1 (C:gX) (a:List eH):Code.weight (.builtin "type.__call__" ⟨.ref C::a,[]⟩)=1:=by kernel_rfl
theorem Mn (C:gX) (a:List eH):Code.cUnits (.builtin "type.__call__" ⟨.ref C::a,[]⟩)=1:=by kernel_rfl
theorem Mo (A:jc) (C:gX) (a:List eH):(A.under (.builtin "type.__call__" ⟨.ref C::a,[]⟩)).handled=A.handled/\(A.under (.builtin "type.__call__" ⟨.ref C::a,[]⟩)).depth=A.depth+1/\(A.under (.builtin "type.__call__" ⟨.ref C::a,[]⟩)).units=A.units+1:=
 (iz rfl (congrArg (A.depth+·) (J1 C a)) (congrArg (A.units+·) (Mn C a)))
theorem Mp (e:gU c) (I:So c a) (h:eE PG (a+1) (.cls d) j b n) (f:mO (a+1) L) (r:R c b m) (y:hU c m.heap aj j):
 WE c L (nB (.ref (c.ca d)) aj []) (k4 c b m n) m:=by
 refine eS h λC k h=>?_
 .have i:d<10:=by rw [<-e.LI];exact (ew.mp k).1
  refine eS (e.cls d i) λJ o K=>?_
  rw [k] at o;obtain rfl:=d3 o
  have X:=e.Hh r
  have s:=looks_findIn (M:=hJ c.prog c.w) X K.init
  have F:=λH=>bind_fn (M:=hJ c.prog c.w) X H (beq_iff_eq.mp K.Tq)
  have Y:=makes_of (M:=hJ c.prog c.w) X K.makes
  refine wW (r.Pg (c:=d) i) λp l G q=>?_
  have u:=h _ _ p l (OA _)
  refine QP ?_
  clear e k h i K X p l;obtain ⟨O,g,Q,t,N⟩:=m
  refine make_core Y s F (.inl rfl) ?_
  refine mV (Mo L (c.ca d) aj) λu1 u2 u3=>?_
  refine I _ C.init _ _ _ _ _ _ u ⟨by have:=f.depth;exact V0 u2 this rfl,by have:=f.units;exact V0 u3 this rfl,u1.trans f.handled⟩ G (.cons (.ref _) (y.step r q)) ?_
  intro v P A;obtain ⟨x,z,w,E,D,rfl,B⟩:=A
  obtain rfl:=qF w
  exact ⟨rfl,.ref _,z,.ref _,E,q.trans D,B⟩
inductive uJ (B:Base) (n:Nat) (ns:gm):List (Option gc)->List gc->w0->Prop where
 |nil:uJ B n ns [] [] .nil
 |cons {k v:gc} {ks:List (Option gc)} {vs:List gc} {a b:CE} {r:w0}:SE B n ns k a->SE B n ns v b->uJ B n ns ks vs r->uJ B n ns (some k::ks) (v::vs) (.cons a (.cons b r))
noncomputable def Fs (ps:List (eH×eH)):List Value:=ps.flatMap λp=>[p.1,p.2]
theorem J2:∀ps:List (eH×eH),(Fs ps).length=2*ps.length:=by
 intro d
 induction d with
 |nil=>
  exact rfl
 |cons p ps c=>
  have:=c
  show (p.1::p.2::Fs ps).length=2*(ps.length+1)
  simp only [e_];exact (λ{a b}=>SQ.mpr) (congrFun (congrArg HAdd.hAdd this) 1)
theorem J3:∀c:List (Int×AV),(Ci c).length=2*c.length:=by
 intro f
 induction f with
 |nil=>
  exact rfl
 |cons e ps d=>
  obtain ⟨k,v⟩:=e
  have:=d
  show (AV.int k::v::Ci ps).length=2*(ps.length+1)
  simp only [e_];exact (λ{a b}=>SQ.mpr) (congrFun (congrArg HAdd.hAdd this) 1)
variable {d6:List (Option gc)}
theorem uJ.all (h:uJ c a v d6 az ar):d6.all (·.isSome)=true/\d6.length=az.length:=by
 induction h with
 |nil=>exact ⟨rfl,rfl⟩
 |cons _ _ _ b=>exact ⟨by simpa using b.1,congrArg rW b.2⟩
theorem Mq (J:uJ c a v d6 az ar):∀{A:jc} {m:MM} {b:AS} {s:eL} {Q:List AV->AS->Prop} {n:EB},mO a A->FR c ab v m b s->R c b s->Io PG (eE PG a) ar m b Q->
 WE c A (evalPairs (pairTrees d6 az ab n)) (λps p=>∃f i,hU c p.heap (Fs ps) f/\R c i p/\St c b s i p/\ps.length=d6.length/\Q f i) s:=by
 induction J with
 |nil=>intro A m b s Q n d F r h;exact pairTrees_nil_walk (qW [] b .nil r .refl rfl h)
 |cons z B _ G=>
  intro A m b s Q n d F r h
  refine pairTrees_cons_walk (el (z A ab m b s _ d F r h) (λS L ⟨x,M,u,q,l,w⟩=>el (B A ab m M L _ d (F.step r l) q w) (λP N j=>?_) λ_ _ e=>e) λ_ _ e=>e)
  obtain ⟨y,T,E,o,k,I⟩:=j
  refine el (G d (F.step r (l.trans k)) o I) (λps O j=>?_) λ_ _ e=>e
  refine gp j λf t K H g C D=>?_
  exact qW (x::y::f) t (.cons ((u.step q k).step o g) (.cons (E.step o g) K)) H ((l.trans k).trans g) (congrArg rW C) D
theorem J4:∀{ps:List (eH×eH)} {g:List (Int×AV)} {a:List (Int×eH)} {s:eL} {Q:PUnit->eL->Prop},hU c s.heap (Fs ps) (Ci g)->s.heap.DictAt (t8 c) z a a.length->(a.map (·.1)++g.map (·.1)).Nodup->a.length+g.length<=fE->
 (∀u f,vN z s u->u.heap.DictAt (t8 c) z (a++f) (a.length+f.length)->f.map (·.1)=g.map (·.1)->hU c u.heap (f.map (·.2)) (g.map (·.2))->Q ⟨⟩ u)->WE c L (storeAll z ps) Q s:=by
 intro V
 induction V with
 |nil=>
  intro g a s Q q l i h n
  induction g using ej with
  |nil=>exact dj (n s [] ⟨λ_ _ _ e=>e,rfl,rfl⟩ (by simpa using l) rfl .nil)
  |cons p r=>clear l i h n;obtain ⟨k,v⟩:=p;contradiction
 |cons W ps N=>
  intro g a s Q q l i h n
  obtain ⟨E,m⟩:=W
  induction g using ej with
  |nil=>contradiction
  |cons p r=>
   obtain ⟨k,x⟩:=p
   change hU c s.heap (E::m::Fs ps) (.int k::x::Ci r) at q
   cases q with
   |cons T q=>
    cases q with
    |cons I q=>
     refine rY E (gn T) λt=>?_
     unfold storeAll
     rw [qL]
     have J:jm a k=none:=by
      induction e:jm a k with
      |none=>rfl
      |some v=>
       exfalso
       unfold jm at e
       refine eS (fV.mp e) λp F _=>?_
       have R:=sm F
       have P:p.1=k:=by have:=BC F;simpa using this
       rw [eP] at i
       exact i.2.2 k (ck.mpr (ei p R P)) k (by simp) rfl
     have C:∀o,s.heap.get? z=some o->¬f' o:=λo e=>by
      refine nV l λU G d _ y _=>?_
      rw [e] at d;(injection d with d;subst d);exact rK y
     refine b5 (b5 (wb (knd:=t8 c) (pH _ _ k t) l (λw K _ _=>absurd J K) (λw _ B S=>dj ?_) (a_ (by simp at h;exact Nat.le_of_add_right_le h) hX)))
     have j:vN z s {s with heap:=w,toks:=s.toks+1}:=⟨λb o j e=>(S.2 b j).trans e,rfl,rfl⟩
     refine N (a:=a++[(k,m)]) (q.but j C) (by rw [bh];exact B) (by simpa using i) (by simp at h⊢;exact sw h (eJ _)) λM f D A X H=>?_
     have O:∀o,({s with heap:=w,toks:=s.toks+1}:eL).heap.get? z=some o->¬f' o:=λo e=>by
      refine nV B λU G d _ y _=>?_
      rw [e] at d;(injection d with d;subst d);exact rK y
     refine n M ((k,m)::f) (j.trans D) ?_ (by simp [X]) (.cons ((I.but j C).but D O) H)
     rw [eC] at A
     rw [bh] at A
     rw [e_,show a.length+(f.length+1)=a.length+[(k,m)].length+f.length by simp;exact rH (Nat.succ_add_eq_add_succ a.length f.length)]
     exact A
theorem Mr (C:d6.length<15) (G:uJ c a v d6 az ar):SE c a v (.Dict d6 az aa) (.dict ar):=λA kD m st s Q M F r h=>by
 refine iK G.all λH w=>?_
 have n:s.heap.get? s.heap.objs.size=none:=ik _
 refine iK (r.kh n) λy x=>?_
 by_cases T:d6=[]
 .clear C M F H y x;subst T
  have:az=[]:=gT.mp w.symm
  subst this
  rcases G with ⟨⟩
  refine gi h λj e t h=>?_
  have:j=[]:=by induction j using ej with
   |nil=>rfl
   |cons p r=>clear n w t h;obtain ⟨k,kC⟩:=p;contradiction
  clear w t;subst this
  refine wpAny_Dict_empty ?_
  have u:(s.heap.push {cls:=.type "dict",data:=.dict #[]}).DictAt (t8 c) s.heap.objs.size [] 0:=nX _ (#[]) (eW _ rfl) ⟨rfl,rfl,rfl⟩ rfl (by intro e I;simp at I) .nil eI
  exact uF r (jw s _) n (.dict (.int u .nil rfl) (ft _)) (by (repeat intro _);contradiction) h
 .refine wpAny_Dict_any H w T (by exact nT C) ?_
  have g:=jw s {cls:=.type "dict",data:=.dict #[]}
  have u:(s.heap.push {cls:=.type "dict",data:=.dict #[]}).DictAt (t8 c) s.heap.objs.size [] 0:=nX _ (#[]) (eW _ rfl) ⟨rfl,rfl,rfl⟩ rfl (by intro e I;simp at I) .nil eI
  generalize hD:s.heap.objs.size=D at n y x u⊢
  generalize km:({s with heap:=s.heap.push {cls:=.type "dict",data:=.dict #[]}}:eL)=Z at g
  have K:Z.heap.DictAt (t8 c) D [] 0:=by rw [<-km];exact u
  refine el (Mq G M (F.step r (.grow g)) (r.grow g) h) (λps kn ζ=>?_) λ_ _ e=>e
  refine EN ζ λxs ky N Y z W j e t ku=>?_
  subst e
  have kl:∃d,Z.heap.get? D=some d:=i5 K λd _ i _=>(oJ d i)
  have J:kn.heap.DictAt (t8 c) D [] 0:=by
   refine i5 K λd es i r'=>?_
   exact nA d es (z.keep _ _ i y) r'
  have R:¬ic c ky D:=λf=>(z.foot D f).elim y λl=>by refine j_ kl λd i=>?_;rw [l] at i;contradiction
  have O:j.length<=15:=by
   have h1:=N.length
   have h2:=J2 ps
   have h3:=J3 j
   rw [h2,h3] at h1
   exact n1 ((Nat.eq_of_mul_eq_mul_left (by decide) h1).symm.trans W) (eA C)
  refine J4 (a:=[]) N J (by simpa using t) (by unfold fE;simp;exact a_ O (by decide)) λkF B S P L U=>?_
  rw [BB] at P
  have kq:∀d,kn.heap.get? D=some d->¬f' d:=λd e=>by
   refine nV J λo' es i _ kB _=>?_
   rw [e] at i;obtain rfl:=d3 i;exact rK kB
  have X:=Y.but S R x kq
  have kx:B.length=j.length:=by have:=congrArg fi L;simpa using this
  obtain ⟨f,V,kz⟩:=X.TJ (o:=.dict (j.map λp=>(.int p.1,p.2))) R x (.dict (.int (kvs:=B) (by simpa using P) (by rw [er];exact U) (by
   rw [er]
   have e1:B.map (λp:Int×eH=>AV.int p.1)=(B.map (·.1)).map AV.int:=by rw [er];rfl
   rw [e1,L,er];rfl)) (by rw [bb];unfold fE;exact a_ O (by decide))) (by (repeat intro _);contradiction)
  refine ⟨.ref D,_,.ref D,V,⟨λb d E nf=>S.keep b d (λq=>by rw [q,n] at E;contradiction) (z.keep b d (g.keep _ _ E) nf),λb E=>?_⟩,ku D f⟩
  clear C G M F r H w T hD y x u km K Y W t ku N kl J R O S P L U kq X kx f V;rcases kz b E with h |rfl
  .rcases z.foot b h with h |h
   .exact .inl h
   .induction e:s.heap.get? b using d7 with
    |none=>exact .inr rfl
    |some d=>rw [g.keep _ _ e] at h;contradiction
  .exact .inr n
section
noncomputable def wh {α:Type}:(o:Option α)->Option {a // o=some a}
 |none=>none
 |some a=>some ⟨a,rfl⟩
noncomputable def oD:(b:Bool)->Option (PLift (b=true))
 |true=>some ⟨rfl⟩
 |false=>none
noncomputable def DK (ns:gm) (b:gc) (cb:CE):Prop:=∀B n,gU B->qn B n->SE B n ns b cb/\∀k m st Q,VE PG (eE PG (k+1)) cb m st Q->VE PG (eE PG 1) cb m st Q
noncomputable def zW (B:Base) (n:Nat):Prop:=∀(ns:gm) (f e:gc) (c:CE) (a:yX) (b:gc) (sc:En) (lp kp pos:EB) (cb:CE),ye ns f=true->Co a sc=true->BN ns=true->DK sc.names b cb->
 xb e=true->SE B n ns e c->SE B n ns (.Call f [e] [⟨some JD,.Lambda a b sc lp,kp⟩] pos) (.ER c cb)
structure Ctx (B:Base) (n:Nat):Prop where
 HB:gU B
 HD:q6 B
 HC:qn B n
 HK:zW B n
structure PE (ns:gm) (e:gc) (c:CE):Prop where
 ok:xb e=true
 se:∀{B n},Ctx B n->SE B n ns e c
 st:∀{B n},Ctx B n->ST B n ns e c
 su:∀{B n},Ctx B n->DD e=true->SU B n ns e c
noncomputable abbrev RE (ns:gm) (e:gc):=Option {c:CE // PE ns e c}
theorem rL (e:∀{B n},Ctx B n->SE B n v a0 g) (l:∀(X:Ak) (m:MM) (a:AS) (Q:Bool->AS->Prop),VT PG X g (VE PG X g) m a Q=VE PG X g m a λc a=>∃b,nM a c b/\Q b a) (j:∀i d,GQ a0 i d=(do let c <-d;Gz a0.pos;yR [c] (EA c))) (f:xb a0=true) (k:DD a0=false):PE v a0 g:=
 ⟨f,e,λC=>Az (e C) (l _) j,λ_ h=>by rw [k] at h;contradiction⟩
noncomputable def Ft (e:gc):Option (PLift (xn e)):=
 rC 23 e ⟨λ_ _=>some ⟨λ_ _ _=>rfl⟩⟩ (rC 20 e ⟨λ_ _ _=>some ⟨λ_ _ _=>rfl⟩⟩ (rC 21 e ⟨λ_ _ _=>some ⟨λ_ _ _=>rfl⟩⟩ (rC 6 e ⟨λ_ _ _=>some ⟨λ_ _ _=>rfl⟩⟩ (rC 16 e ⟨λf as ks q=>
  rC 20 f ⟨λ_ _ _=>some ⟨λ_ _ _=>rfl⟩⟩ (rC 23 f ⟨λx p=>match as,ks with
   |[],[]=>if h:x=G' then none else some ⟨Dz h⟩
   |_::_,_=>some ⟨λ_ _ _=>rfl⟩
   |_,_=>none⟩ none)⟩ none))))
structure UP (ns:gm) (es:List gc) (cs:w0):Prop where
 ok:An es=true
 TN:∀{B n},Ctx B n->LJ B n ns es cs
 VB:∀{B n},Ctx B n->Pb B n ns es cs
 len:cs.len=es.length
section
variable (ns:gm) (f:(e:gc)->RE ns e)
noncomputable def Sp:(es:List gc)->Option {cs:w0 // UP ns es cs}
 |[]=>some ⟨.nil,rfl,λ_=>Dw,λ_=>.nil,rfl⟩
 |e::r=>(f e).bind λa=>(Sp r).map λb=>⟨.cons a.1 b.1,by show (xb e&&An r)=true;rw [a.2.ok,b.2.ok];rfl,λC=>xl a.2.ok (a.2.se C) (b.2.TN C),λC=>.cons (a.2.st C) (b.2.VB C),congrArg rW b.2.len⟩
theorem AH {x:j7} {c:CE} (h:ux GG ns x=some c):(∃v,c= .cst v)\/∃i,c= .var i:=
 (Cn _ h).2.elim (λh=>eS h.2 λv _ e=>.inl ⟨v,e⟩) λ⟨_,i,_,_,_,e⟩=>.inr ⟨i,e⟩
noncomputable def TO (x:j7) (p):RE ns (.Name x p):=(wh (ux GG ns x)).map λc=>⟨c.1,rL (λC=>xh C.HB c.2) (λX m st Q=>by
 rcases AH ns c.2 with ⟨v,e⟩ |⟨i,e⟩<;>rw [e]<;>rfl) (λ_ _=>rfl) rfl rfl⟩
noncomputable def TP:(o:Option gc)->Option {c:CE // ∀{B n},Ctx B n->SO B n ns o c}
 |none=>some ⟨.cst .none,λ_=>E7⟩
 |some e=>(f e).map λa=>⟨a.1,λC=>E9 (a.2.se C)⟩
noncomputable def Qx (op:YV) (p:EB):(vs:List gc)->RE ns (.BoolOp op vs p)
 |[]=>none
 |[e]=>(f e).map λa=>⟨a.1,rfl,λC=>JJ (a.2.se C),λC=>Hf (a.2.st C),λ_ h=>nomatch h⟩
 |e::g::r=>(f e).bind λa=>(Qx op p (g::r)).map λb=>match op,b with
  | .And,b=>⟨.and a.1 b.1,rfl,λC=>snd_and (a.2.se C) (b.2.se C),λC=>LY (a.2.st C) (b.2.st C),λ_ h=>nomatch h⟩
  | .Or,b=>⟨.or a.1 b.1,rfl,λC=>Q_ (a.2.se C) (b.2.se C),λC=>OZ (a.2.st C) (b.2.st C),λ_ h=>nomatch h⟩
noncomputable def kPairs:(ks:List (Option gc))->(vs:List gc)->Option {cs:w0 // ∀{B n},Ctx B n->uJ B n ns ks vs cs}
 |[],[]=>some ⟨.nil,λ_=>.nil⟩
 |some k::ks,v::vs=>(f k).bind λa=>(f v).bind λb=>(kPairs ks vs).map λc=>⟨.cons a.1 (.cons b.1 c.1),λC=>.cons (a.2.se C) (b.2.se C) (c.2 C)⟩
 |_,_=>none
noncomputable def VC (l:gc) (p:EB):(ops:List Et)->(cs:List gc)->RE ns (.Compare l ops cs p)
 |[o],[e]=>(f l).bind λa=>(f e).map λb=>⟨.cmp a.1 (zE o) b.1,rfl,λC=>LU C.HB C.HD (a.2.se C) b.2.ok (b.2.se C),λC=>JK C.HB C.HD (a.2.se C) b.2.ok (b.2.se C),λ_ h=>nomatch h⟩
 |[o,q],[e,g]=>(f l).bind λa=>(f e).bind λb=>(f g).map λc=>⟨.EP a.1 (zE o) b.1 (zE q) c.1,rfl,λC=>LV C.HB C.HD (a.2.se C) b.2.ok (b.2.se C) c.2.ok (c.2.se C),λC=>JL C.HB C.HD (a.2.se C) b.2.ok (b.2.se C) c.2.ok (c.2.se C),λ_ h=>nomatch h⟩
 |_,_=>none
noncomputable def Yh (e:gc) (p:EB):(o:UnaryOp)->RE ns (.UnaryOp o e p)
 | .USub=>(f e).map λa=>⟨.neg a.1,rL (λC=>IH (a.2.se C)) (λ_ _ _ _=>rfl) (λ_ _=>rfl) rfl rfl⟩
 | .Not=>(f e).map λa=>⟨.not a.1,rfl,λC=>OX (a.2.se C),λC=>LW (a.2.st C),λ_ h=>nomatch h⟩
 |_=>none
noncomputable def Yi (v:gc) (pos:EB) (s:gc):RE ns (.Subscript v s pos):=rC 26 s ⟨λl u w p=>match l,u,w with
 |l,u,none=>(f v).bind λe=>(TP ns f l).bind λa=>(TP ns f u).map λb=>⟨.tZ e.1 a.1 b.1,rL (λC=>O0 (e.2.se C) (a.2 C) (b.2 C)) (λ_ _ _ _=>rfl) (λ_ _=>rfl) rfl rfl⟩
 |none,none,some w=>rC (M:=λw=>RE ns (.Subscript v (.Slice none none (some w) p) pos)) 3 w ⟨λo x q=>rC (M:=λx=>RE ns (.Subscript v (.Slice none none (some (.UnaryOp o x q)) p) pos)) 19 x ⟨λc k p=>match o,c with
  | .USub,.int 1=>(f v).map λe=>⟨.rev e.1,rL (λC=>O1 (e.2.se C)) (λ_ _ _ _=>rfl) (λ_ _=>rfl) rfl rfl⟩
  |_,_=>none⟩ none⟩ none
 |_,_,_=>none⟩ ((f v).bind λe=>(f s).map λi=>⟨.sub e.1 i.1,rL (λC=>IJ (e.2.se C) (i.2.se C)) (λ_ _ _ _=>rfl) (λ_ _=>rfl) rfl rfl⟩)
inductive uK (ns:gm):List uh->Gens->Prop where
 |nil:uK ns [] .nil
 |cons {t i:gc} {fs:List gc} {gs:List uh} {tg:List Nat} {ci:CE} {cs:w0} {rest:Gens}:Am ns t=some tg->PE ns i ci->UP ns fs cs->uK ns gs rest->uK ns (⟨t,i,fs,0⟩::gs) (.cons tg ci cs rest)
noncomputable def Qy:(gs:List uh)->Option {g:Gens // uK ns gs g}
 |[]=>some ⟨.nil,.nil⟩
 |⟨t,i,fs,0⟩::gs=>(wh (Am ns t)).bind λtg=>(f i).bind λci=>(Sp ns f fs).bind λcs=>(Qy gs).map λg=>⟨.cons tg.1 ci.1 cs.1 g.1,.cons tg.2 ci.2 cs.2 g.2⟩
 |_=>none
end
theorem J5 (C:Ctx c a) (j:SE c a v a0 g) (d:uK v br bD):
 ∃(f:gX->zw->Ox Unit) (P:MM->MM->Prop),(∀e D b,sW (.ListComp a0 (⟨aH,aW,az,0⟩::br) aJ aa) 0 e (.ref D) b=uI aH aW az e (f D b) b (.compLoop (.ListComp a0 (⟨aH,aW,az,0⟩::br) aJ aa) 0 e (.ref D) b))/\
  Cy c a v P f (VG PG (eE PG a) (VE PG (eE PG a) g) bD)/\∀m,P m m:=by
 induction d using uK.casesOn with
 |nil=>exact nr _ _ (zc rfl rfl) (Mi j) (λ_=>rfl)
 |cons k i l d=>
  induction d using uK.casesOn with
  |nil=>exact nr _ _ (xq rfl rfl) (Rr C.HB rfl rfl k i.ok (i.se C) (l.VB C) j) (λ_=>trivial)
  |cons _ _ _ _=>
   refine nr _ (λ_ _=>True) (xq rfl rfl) (λA b m n s D t K o F r p h=>?_) (λ_=>trivial)
   have q:=h.1
   contradiction
theorem Ph (f:Dp aJ=true) (j:qZ v aJ.names=true) (k:PE aJ.names a0 D) (d:Am aJ.names aH=some C) (c:PE v aW g) (m:UP aJ.names az ar) (l:uK aJ.names br bD):
 PE v (.ListComp a0 (⟨aH,aW,az,0⟩::br) aJ aa) (.comp (qm v aJ.names) D C g ar bD):=by
 have b:∀{B n},Ctx B n->SE B n v (.ListComp a0 (⟨aH,aW,az,0⟩::br) aJ aa) (.comp (qm v aJ.names) D C g ar bD)/\SU B n v (.ListComp a0 (⟨aH,aW,az,0⟩::br) aJ aa) (.comp (qm v aJ.names) D C g ar bD):=λa=>by
  refine jS (J5 a (aH:=aH) (aW:=aW) (az:=az) (aJ:=aJ) (aa:=aa) (k.se a) l) λp P o h e=>?_
  exact Mj a.HB f j o d c.ok (c.se a) (m.VB a) h e
 exact ⟨rfl,λa=>(b a).1,λa=>Az (b a).1 (λ_ _ _=>rfl) (λ_ _=>rfl),λa _=>(b a).2⟩
noncomputable def notAttr (e:gc):Bool:=!(e.ctorIdx==20)
section
variable (ns:gm) (F:(ns:gm)->(e:gc)->RE ns e)
noncomputable def TQ (as:List gc) (pos:EB) (hl:as.length<20) (es:{cs:w0 // UP ns as cs}) (f:gc):RE ns (.Call f as [] pos):=rC 20 f
 ⟨λo nm ap=>(Ft o).bind λh=>(oD (decide (ap.endLine=pos.line))).bind λh'=>(F ns o).bind λe=>(wh (r6 AT nm)).map λx=>
  ⟨.fL e.1 x.1 es.1,rL (λC=>JS C.HB C.HC Tx (Tz C.HB) h.down (of_decide_eq_true h'.down) (ph x.2) hl es.2.ok (e.2.se C) (es.2.TN C)) (λ_ _ _ _=>rfl) (λ_ _=>rfl) rfl rfl⟩⟩
 ((oD (notAttr f)).bind λh=>(F ns f).map λg=>
  ⟨.call g.1 es.1,rL (λC=>Fb C.HB C.HC (λ_ _ _ q=>by have:=h.down;rw [q] at this;contradiction) es.2.ok (g.2.se C) (es.2.TN C)) (λ_ _ _ _=>rfl) (λ_ _=>rfl) rfl rfl⟩)
noncomputable def VD (kL:(ns:gm)->(b:gc)->Option {c:CE // DK ns b c}) (f e:gc) (pos:EB):(kws:List Ws)->RE ns (.Call f [e] kws pos)
 |[⟨some k,l,kp⟩]=>rC (M:=λl=>RE ns (.Call f [e] [⟨some k,l,kp⟩] pos)) 4 l ⟨λa b sc lp=>(oD (ye ns f)).bind λh1=>(oD (Co a sc)).bind λh2=>(oD (BN ns)).bind λh3=>(oD (decide (k=JD))).bind λh4=>(kL sc.names b).bind λcb=>(F ns e).map λc=>
  ⟨.ER c.1 cb.1,rL (λC=>by rw [of_decide_eq_true h4.down];exact C.HK ns f e c.1 a b sc lp kp pos cb.1 h1.down h2.down h3.down cb.2 c.2.ok (c.2.se C)) (λ_ _ _ _=>rfl) (λ_ _=>rfl) rfl rfl⟩⟩ none
 |_=>none
variable (kL:(ns:gm)->(b:gc)->Option {c:CE // DK ns b c})
noncomputable def TR (f:gc) (pos:EB):(as:List gc)->(kws:List Ws)->RE ns (.Call f as kws pos)
 |as,[]=>(oD (decide (as.length<20))).bind λh=>(Sp ns (F ns) as).bind λes=>TQ ns F as pos (of_decide_eq_true h.down) es f
 |[e],kws=>VD ns F kL f e pos kws
 |_,_=>none
noncomputable def TS (elt:gc) (sc:En) (p:EB):(gs:List uh)->RE ns (.ListComp elt gs sc p)
 |⟨t,i,fs,0⟩::gs=>(oD (Dp sc)).bind λh=>(oD (qZ ns sc.names)).bind λh'=>(F sc.names elt).bind λce=>(wh (Am sc.names t)).bind λtg=>(F ns i).bind λci=>(Sp sc.names (F sc.names) fs).bind λcs=>(Qy sc.names (F sc.names) gs).map λg=>
  ⟨.comp (qm ns sc.names) ce.1 tg.1 ci.1 cs.1 g.1,Ph h.down h'.down ce.2 tg.2 ci.2 cs.2 g.2⟩
 |_=>none
noncomputable def Yj (e:gc):RE ns e:=
 rC 23 e ⟨λx p=>TO ns x p⟩<|
 rC 19 e ⟨λc u p=>(wh (Lx c)).map λv=>⟨.cst v.1,rL (λ_=>snd_const v.2) (λ_ _ _ _=>rfl) (λ_ _=>rfl) rfl rfl⟩⟩<|
 rC 0 e ⟨λop vs p=>Qx ns (F ns) op p vs⟩<|
 rC 2 e ⟨λl op r p=>(wh (Th op)).bind λo=>(F ns l).bind λa=>(F ns r).map λb=>⟨.bin o.1 a.1 b.1,rL (λC=>OW o.2 (a.2.se C) (b.2.se C)) (λ_ _ _ _=>rfl) (λ_ _=>rfl) rfl rfl⟩⟩<|
 rC 3 e ⟨λo e p=>Yh ns (F ns) e p o⟩<|
 rC 5 e ⟨λt b o p=>(F ns t).bind λx=>(F ns b).bind λy=>(F ns o).map λz=>⟨.ite x.1 y.1 z.1,rfl,λC=>OY (x.2.st C) (y.2.se C) (z.2.se C),λC=>LX (x.2.st C) (y.2.st C) (z.2.st C),λ_ h=>nomatch h⟩⟩<|
 rC 6 e ⟨λks vs p=>(oD (decide (ks.length<15))).bind λh=>(kPairs ns (F ns) ks vs).map λc=>⟨.dict c.1,rL (λC=>Mr (of_decide_eq_true h.down) (c.2 C)) (λ_ _ _ _=>rfl) (λ_ _=>rfl) rfl rfl⟩⟩<|
 rC 24 e ⟨λes p=>(oD (decide (es.length<20))).bind λh=>(Sp ns (F ns) es).map λc=>⟨.lst c.1,rL (λC=>OV (by rw [c.2.len];exact of_decide_eq_true h.down) (c.2.TN C)) (λ_ _ _ _=>rfl) (λ_ _=>rfl) rfl rfl⟩⟩<|
 rC 25 e ⟨λes k p=>(oD (decide (es.length<20))).bind λh=>(Sp ns (F ns) es).map λc=>⟨.tup c.1,rL (λC=>IG (by rw [c.2.len];exact of_decide_eq_true h.down) (c.2.TN C)) (λ_ _ _ _=>rfl) (λ_ _=>rfl) rfl rfl⟩⟩<|
 rC 15 e ⟨λl ops cs p=>VC ns (F ns) l p ops cs⟩<|
 rC 20 e ⟨λv a p=>(Ft v).bind λh=>(F ns v).bind λe=>(wh (r6 AT a)).map λx=>⟨.attr e.1 x.1,rL (λC=>L4 C.HB h.down (ph x.2) (e.2.se C)) (λ_ _ _ _=>rfl) (λ_ _=>rfl) rfl rfl⟩⟩<|
 rC 21 e ⟨λv s p=>Yi ns (F ns) v p s⟩<|
 rC 16 e ⟨λf as kws p=>TR ns F kL f p as kws⟩<|
 rC 8 e ⟨λelt gs sc p=>TS ns F elt sc p gs⟩<|
 none
noncomputable def PS (ns:gm) (s:zu) (c:CS):Prop:=∀{B n},Ctx B n->SS B n ns s c
noncomputable def Qz (ns:gm) (s:List zu) (c:w'):Prop:=∀{B n},Ctx B n->O5 B n ns s c
noncomputable def VF (e:gc) (p:EB) (v:{c:CE // PE ns e c}) (k:Nat) (q:EB):(ts:List gc)->EV (.Tuple ts k q) e=true->Option {c:CS // PS ns (.Assign [.Tuple ts k q] e p) c}
 |[s,t],hw=>rC (M:=λs=>EV (.Tuple [s,t] k q) e=true->Option {c:CS // PS ns (.Assign [.Tuple [s,t] k q] e p) c}) 20 s ⟨λo a p1=>rC (M:=λt=>EV (.Tuple [.Attribute o a p1,t] k q) e=true->Option {c:CS // PS ns (.Assign [.Tuple [.Attribute o a p1,t] k q] e p) c}) 20 t
  ⟨λo' a' p2 hw=>(F ns o).bind λx=>(wh (r6 AT a)).bind λi=>(F ns o').bind λx'=>(wh (r6 AT a')).map λi'=>
   ⟨.ES x.1 i.1 x'.1 i'.1 v.1,λC=>Md C.HB (ph i.2) (ph i'.2) hw v.2.ok (v.2.se C) (x.2.se C) (x'.2.se C)⟩⟩ λ_=>none⟩ (λ_=>none) hw
 |_,_=>none
noncomputable def VH (e:gc) (p:EB) (v:{c:CE // PE ns e c}) (t:gc):EV t e=true->Option {c:CS // PS ns (.Assign [t] e p) c}:=
 rC 23 t ⟨λx q _=>(wh (oj ns x)).map λi=>⟨.asg i.1 v.1,λC=>Rp i.2 v.2.ok (v.2.se C) (v.2.su C)⟩⟩<|
 rC 25 t ⟨λts k q hw=>(VF ns F e p v k q ts hw).orElse λ_=>(wh (uy ns ts)).bind λl=>(oD (decide (2<=l.1.length))).bind λh=>(oD (decide l.1.Nodup)).map λh'=>⟨.ta l.1 v.1,λC=>O8 l.2 (of_decide_eq_true h.down) (of_decide_eq_true h'.down) hw v.2.ok (v.2.se C)⟩⟩<|
 rC 20 t ⟨λo a q _=>(F ns o).bind λx=>(wh (r6 AT a)).map λi=>⟨.iA x.1 i.1 v.1,λC=>O9 C.HB (ph i.2) v.2.ok (v.2.se C) (x.2.se C)⟩⟩<|
 rC 21 t ⟨λo i q _=>(F ns o).bind λx=>rC (M:=λi=>Option {c:CS // PS ns (.Assign [.Subscript o i q] e p) c}) 26 i ⟨λl u w q'=>match l,u,w with
  |some l,some u,none=>(F ns l).bind λa=>(F ns u).map λb=>⟨.Lv x.1 a.1 b.1 v.1,λC=>O_ v.2.ok (v.2.se C) (x.2.se C) (a.2.se C) (b.2.se C)⟩
  |_,_,_=>none⟩ ((F ns i).map λk=>⟨.t7 x.1 k.1 v.1,λC=>O' C.HB v.2.ok (v.2.se C) (x.2.se C) (k.2.se C)⟩)⟩<|
 λ_=>none
variable (S:(ns:gm)->(s:List zu)->Option {c:w' // Qz ns s c})
@[elab_as_elim] noncomputable def Ru {M:zu->Type} (k:Nat) (s:zu) (f:Stmt.ctorElimType.{1} (motive_2:=M) k) (g:M s):M s:=if h:k=s.ctorIdx then Stmt.ctorElim k s h f else g
noncomputable def kS (s:zu):Option {c:CS // PS ns s c}:=
 Ru 5 s ⟨λts e p=>match ts with
  |[t]=>(oD (EV t e)).bind λh=>(F ns e).bind λv=>VH ns F e p v t h.down
  |_=>none⟩<|
 Ru 24 s ⟨λe p=>(oD (Ip e)).bind λh=>(F ns e).map λv=>⟨.ex v.1,λC=>TC h.down (v.2.se C)⟩⟩<|
 Ru 3 s ⟨λe p=>match e with
  |none=>some ⟨.ret (.cst .none),λ_=>O7⟩
  |some e=>(F ns e).map λv=>⟨.ret v.1,λC=>Rl (v.2.se C)⟩⟩<|
 Ru 12 s ⟨λt a b p=>(F ns t).bind λx=>(S ns a).bind λy=>(S ns b).map λz=>⟨.iff x.1 y.1 z.1,λC=>TB (x.2.st C) (y.2 C) (z.2 C)⟩⟩<|
 Ru 11 s ⟨λt a b p=>match b with
  |[]=>(F ns t).bind λx=>(S ns a).map λy=>⟨.ET x.1 y.1,λC=>Mb (x.2.st C) (y.2 C)⟩
  |_=>none⟩<|
 Ru 9 s ⟨λt i a b p=>match b with
  |[]=>(wh (Am ns t)).bind λtg=>(F ns i).bind λx=>(S ns a).map λy=>⟨.kg tg.1 x.1 y.1,λC=>Ro C.HB tg.2 x.2.ok (x.2.se C) (y.2 C)⟩
  |_=>none⟩<|
 Ru 26 s ⟨λp=>some ⟨.brk,λ_=>Rm⟩⟩ none
end
structure S0 (ns:gm) (e:gc) (c:CE):Prop where
 ok:xb e=true
 se:∀{B n},gU B->SE B n ns e c
 lv:(∃j i,c= .sub (.var j) (.cst (.int i)))\/∃v i,c= .sub (.cst v) (.cst (.int i))
noncomputable def QA (ns:gm) (e:gc):Option {c:CE // S0 ns e c}:=rC 21 e ⟨λy z r=>rC (M:=λy=>Option {c:CE // S0 ns (.Subscript y z r) c}) 23 y ⟨λx p=>rC (M:=λz=>Option {c:CE // S0 ns (.Subscript (.Name x p) z r) c}) 19 z ⟨λc k q=>match c with
 | .int i=>(wh (ux GG ns x)).map λc=>⟨.sub c.1 (.cst (.int i)),rfl,λHB=>IJ (xh HB c.2) (snd_const rfl),(AH ns c.2).elim (λ⟨v,e⟩=>.inr ⟨v,_,by rw [e]⟩) λ⟨j,e⟩=>.inl ⟨j,_,by rw [e]⟩⟩
 |_=>none⟩ none⟩ none⟩ none
noncomputable def Pj:Str:=⟨⟨[108,101,110]⟩⟩
theorem AI (h:¬ao=td) (b:h_ v ao=some .globalImplicit) (a:h_ GG ao=some l):ux GG v ao=some (.cst l):=by
 unfold ux;rw [if_neg h,b];exact congrArg (Option.map CE.cst) a
theorem J6:h_ GG Pj=some (.bi 0):=by kernel_rfl
theorem Ms (a:ao=Pj) (b:h_ v ao=some .globalImplicit):ux GG v ao=some (.cst (.bi 0)):=AI (a▸by unfold Pj td;decide+kernel) b (a▸J6)
theorem Rv (b:S0 v a0 g) (d:S0 v aH D) (o:ux GG v ao=some (.cst (.bi 0))):DK v (.Tuple [.UnaryOp .USub (.Call (.Name ao aa) [a0] [] b9) cG,aH] a cV) (.tup (.cons (.neg (.call (.cst (.bi 0)) (.cons g .nil))) (.cons D .nil))):=λB n c q=>
 ⟨IG (show 2<20 by decide) (xl rfl (IH (Fb c q (λ_ _ _=>(by (repeat intro _);contradiction)) (by show (xb a0&&true)=true;rw [b.ok];rfl) (xh c o) (xl b.ok (b.se c) Dw))) (xl d.ok (d.se c) Dw)),
  λk m r Q h=>by
   rcases b.lv with ⟨j,i,e⟩ |⟨j,i,e⟩<;>rcases d.lv with ⟨p,l,f⟩ |⟨p,l,f⟩<;>rw [e,f] at h⊢<;>exact h⟩
noncomputable def VI (ns:gm) (b:gc):Option {c:CE // DK ns b c}:=rC 25 b ⟨λes x p=>match es with
 |[u,b]=>rC (M:=λu=>Option {c:CE // DK ns (.Tuple [u,b] x p) c}) 3 u ⟨λo w p1=>rC (M:=λw=>Option {c:CE // DK ns (.Tuple [.UnaryOp o w p1,b] x p) c}) 16 w ⟨λf as ks p2=>rC (M:=λf=>Option {c:CE // DK ns (.Tuple [.UnaryOp o (.Call f as ks p2) p1,b] x p) c}) 23 f ⟨λf fp=>match o,as,ks with
  | .USub,[a],[]=>(QA ns a).bind λa'=>(QA ns b).bind λb'=>(oD (decide (f=Pj))).bind λh1=>(oD (decide (h_ ns f=some .globalImplicit))).map λh2=>⟨_,Rv a'.2 b'.2 (Ms (of_decide_eq_true h1.down) (of_decide_eq_true h2.down))⟩
  |_,_,_=>none⟩ none⟩ none⟩ none
 |_=>none⟩ none
noncomputable def kE (kL:(ns:gm)->(b:gc)->Option {c:CE // DK ns b c}):Nat->(ns:gm)->(e:gc)->RE ns e
 |0,_,_=>none
 |k+1,ns,e=>Yj ns (kE kL k) kL e
noncomputable def VJ (F:(ns:gm)->(e:gc)->RE ns e):Nat->(ns:gm)->(s:List zu)->Option {c:w' // Qz ns s c}
 |0,_,_=>none
 |k+1,ns,[]=>some ⟨.nil,λ_=>O6⟩
 |k+1,ns,s::r=>(kS ns F (VJ F k) s).bind λa=>(VJ F k ns r).map λb=>⟨.cons a.1 b.1,λC=>Ma (a.2 C) (b.2 C)⟩
noncomputable def TU (ns:gm) (b:List zu):Option {c:w' // Qz ns b c}:=VJ (kE VI 30) 60 ns b
noncomputable def VK (dv:List AV) (sc:En) (body:List zu):(a:yX)->Option {F:mN // F.Im=dv/\∃as dfl,TM Qz ⟨a,body,sc⟩ F as dfl}
 |⟨[],as,none,[],[],none,dfl⟩=>(oD (Ao sc)).bind λh1=>(oD (qZ [] sc.names)).bind λh2=>(oD (decide (argNames as).Nodup)).bind λh3=>(wh (Dq (slots sc.names) (argNames as))).bind λps=>(TU sc.names body).map λb=>
  ⟨⟨ps.1,dv,(slots sc.names).length,b.1⟩,rfl,as,dfl,rfl,h1.down,wg h2.down,of_decide_eq_true h3.down,DJ h1.down (wg h2.down) ps.2,rfl,b.2⟩
 |_=>none
noncomputable def Mt (B:Base):Prop:=∀k,zF B k
theorem AJ (l:gU c) (y:q6 c) (t:AG Qz c) (u:Mt c) (x:2<=a->zW c a) (n:qn c a/\So c a):qn c (a+1)/\So c (a+1):=by
 have o:So c (a+1):=λA k i g Q j s Z h e r d q=>Pf l t (λz D C B w=>w ⟨l,y,n.1,x z⟩) h e r d q
 refine ⟨λf i g Q A F j s h e r m d=>?_,o⟩
 induction f using AV.casesOn with
 |fn k=>
  obtain rfl:=Qs m
  exact QP (o A k i g Q j s _ h e r d λv G p=>p)
 |cls E=>obtain rfl:=Lz m;exact Mp l n.2 h e r d
 |bi b=>
  obtain rfl:=Qt m
  exact u b A i g Q j s h (e.le (by exact c_ 1 a)) r d
 |_=>exact h.elim
theorem Mu (i:gU c) (b:q6 c) (e:AG Qz c) (g:Mt c) (o:∀n,2<=n->qn c 1->qn c n->zW c n):∀n,qn c n/\So c n:=by
 have d:qn c 0/\So c 0:=⟨λf m j Q A p l s h=>h.elim,λA k m j Q l s Z h=>h.elim⟩
 have c1:=AJ i b e g (λh=>absurd h (by decide)) d
 intro n
 induction n with
 |zero=>exact d
 |succ n a=>exact AJ i b e g (λh=>o n h c1.1 a.1) a
end
theorem J7 (r:R c b m) (i:L.units+20<vz) (h:b a=some (.list j)) (k:b d=some (.list j)) (f:∀x∈j,Plain x):SeqAt.EqAt L m (.ref a) (.ref d) true:=by
 refine mV (q5 r h f) λg n p=>?_;obtain ⟨q,t⟩:=g
 refine mV (q5 r k f) λg o v=>?_;obtain ⟨l,u⟩:=g
 have e:mS (.list (jW j)) (.list (jW j))=true:=(show sl _ _=true↔_ from EY f f).mpr rfl
 have:=SeqAt.eqAt_reads (.list (jW j)) (.list (jW j)) L m _ _ q l t u n o (by
  have s:Eo (.list (jW j))=qq (jW j)+1:=rfl
  exact um i (n1 s (fg p)) rfl)
 rw [e] at this
 exact this
theorem Mv (z:R c b m) (D:L.units+20<vz) (n:hU c m.heap (cE.map (·.2)) (aC.map (·.2))) (j:aC.map (·.1)=cE.map (λp=>.int p.1)) (t:(aC.map (·.1)).Nodup):
 ∀{ka:List (Int×eH)} {a:List (AV×AV)},hU c m.heap (ka.map (·.2)) (a.map (·.2))->a.map (·.1)=ka.map (λp=>.int p.1)->
 (∀o∈a,∃i g f,o=(.int i,.ref g)/\b g=some (.list f)/\(∀x∈f,Plain x)/\∃l,(AV.int i,AV.ref l)∈aC/\b l=some (.list f))->KeqHits L m cE ka true:=by
 intro Q
 induction Q with
 |nil=>
  intro a q d h
  exact .nil
 |cons S ka C=>
  intro a q d h
  obtain ⟨K,B⟩:=S
  induction a using ej with
  |nil=>clear z D n j t C h q;contradiction
  |cons p a=>
   refine Ig (h p (.head _)) λi g f M=>Lh M λJ P N l O=>iK O λu F=>?_;subst J
   simp only [eG,ix,AV.int.injEq] at d
   cases q with
   |cons E G=>
    have:=gM E
    refine eS (oW n j t u) λw H y=>?_
    have I:=gM y
    clear n j t u E y;subst I
    have:=KeqHits.hit (A:=L) (s:=m) (kb:=cE) (k:=K) (v:=B) (r:=ka) (e:=true) (b:=true) (d.1▸H) (by rw [show B= .ref g from this];exact J7 z D P F N) (C G d.2 λo T=>h o (.tail _ T))
    exact this
set_option tactic.hygienic true in
theorem Rw (E:gU c):q6 c:=λn A st s a I b Q J kl H r g k e=>by
 have u:=H.Ax
 have z:=r.uB E g
 have D:=r.uB E k
 obtain ⟨d,l⟩:=r.oP g
 obtain ⟨o,L⟩:=r.oP k
 have F:∀{ka kb:List (Int×eH)} {O:Bool},s.heap.DictOf (t8 c) a ka->s.heap.DictOf (t8 c) I kb->(ka.length=kb.length->KeqHits A.in1 s kb ka O)->(ka.length==kb.length&&O)=b->
  ((∀w,fH s w->Q (.bool b) w)->WE c A (qR .Eq (.ref a) (.ref I)) Q s)/\((∀w,fH s w->Q (.bool (!b)) w)->WE c A (qR .NotEq (.ref a) (.ref I)) Q s):=λT K P S=>
  ⟨λh=>keq_eq z D T K (by exact pJ u) P (by rw [S];exact h s (g_ _)),λh=>keq_ne z D T K (by exact pJ u) P (by rw [S];exact h s (g_ _))⟩
 cases e with
 |plain hv _ _ _=>contradiction
 |list h _ _ _ _ _=>rw [g] at h;(injection h;contradiction)
 |Ij h G f=>
  rename_i kn
  rw [g] at h;injection h with h;injection h with h;subst h
  rw [k] at f;injection f with f;injection f with f;subst f
  obtain ⟨ka,y,q,m⟩:=d.GL G
  obtain ⟨kb,t,B,j⟩:=o.GL (λp v=>by exact (ee v).elim)
  have km:kb=[]:=by simpa using j.symm
  subst km
  have x:ka.length=J.length:=by have:=congrArg fi m;simpa using this.symm
  refine F y.dictOf t.dictOf (O:=true) (λC=>?_) ?_
  .have:ka=[]:=gT.mp C
   clear E H r g u z D d l G F k o L y q m t B j x C;subst this;exact .nil
  .rw [x]
   clear E H r g u z D d l G F k o L y q m t B j x;rcases J with ⟨⟩<;>rfl
 |Ik h f M C x X=>
  rename_i kn kq
  rw [g] at h;injection h with h;injection h with h;subst h
  rw [k] at f;injection f with f;injection f with f;subst f
  obtain ⟨ka,y,q,m⟩:=d.GL (λp v=>let ⟨i,_,_,e,_⟩:=M p v;(oJ i (by rw [e])))
  obtain ⟨kb,t,B,j⟩:=o.GL (λp v=>let ⟨i,_,_,e,_⟩:=C p v;(oJ i (by rw [e])))
  have Y:ka.length=J.length:=by have:=congrArg fi m;simpa using this.symm
  have l2:kb.length=kl.length:=by have:=congrArg fi j;simpa using this.symm
  refine F y.dictOf t.dictOf (O:=true) (λ_=>Mv r (by show A.units+1+20<vz;exact ul 21 u rfl) B j o.nodup q m λkv U=>?_) ?_
  .obtain ⟨i,N,V,rfl,R,h2⟩:=M kv U
   obtain ⟨rb,W,Z⟩:=X i N V U R
   exact ⟨i,N,V,rfl,R,h2,rb,W,Z⟩
  .rw [Y,l2,x];simp
theorem Pk:sV (.type "list") (iV "keys")=pure none:=am_miss_of_fast (by decide+kernel)
theorem wi {Q:Option eH->eL->Prop} (b:m.heap.get? z=some (listOf bf a)) (o:L.handled=none) (h:∀j,fH m j->Q none j):
 f_ (hJ c.prog c.w) L (getAttr? (.ref z) (iV "keys")) Q aG m:=by
 have q:=Pk
 have l:(["__module__","__name__","__qualname__","__doc__","__annotations__"]:List j7).contains (iV "keys")=false:=by decide+kernel
 have n:(iV "keys").length+100<=sizeLine:=by rw [nC];decide+kernel
 obtain ⟨r,g,d,u,p⟩:=m
 have k:∀f,(⟨r,g,d,f,p⟩:eL).TypeIs (.ref z) "list":=λ_=>ei _ b rfl
 have x:=sub_AttributeError
 have A:=tU.lookup
 have w:=tU.bind (.ref z)
 have B:=am_list_getattr_none
 unfold getAttr? getAttrBy? getAttrBy
 repeat (any_goals (first |assumption |exact k _ |((with_reducible show f_ _ _ (nB (C6 "list.__getattribute__") _ _) _ _ _);refine vW tU (k _) am_entry_list_getattribute (F.args_list_getattribute_2 _ _) (meets_getattribute_miss_list z bf a _ _ _ q l n) (iz b o (λt f e i=>?_))) |wp_step))
 refine qX i.there λs y v=>?_
 show f_ _ _ (QU _ _ _ _ _ _ _) _ _ _
 unfold QU
 repeat (any_goals (first |assumption |wp_step))
 exact h _ ⟨i.of.keeps,rfl,rfl⟩
theorem Hq (r:R c b m) (e:b z=some (.dict aC)) (I:IntKeys aC) (B:aC.length<fE) (s:RV c m.heap J l) (E:∀D,R c (b.set z (.dict (dictPut aC (.int p) l))) D->St c b m (b.set z (.dict (dictPut aC (.int p) l))) D->bq () D):WE c L (K0 z (.int p bF) J) bq m:=by
 refine iK (r.oP e) λd H=>?_
 have w:ic c b z:=.inl (by rw [e];simp)
 refine gi (d.GL I) λi P q f=>?_
 have O:i.length=aC.length:=by have:=congrArg fi f;simpa using this.symm
 refine wb (knd:=t8 c) (pH _ _ p bF) P (λy u n j=>?_) (λy u n j=>?_) (a_ (by exact n1 O (eA B)) hX)
 .have k:=r.nN w j
  have x:AV.int p∈aC.map (·.1):=(nZ f).mp (by induction T:jm i p with
   |none=>exact absurd T u
   |some _=>rfl)
  have g:dictPut aC (.int p) l=aC.map λa=>if a.1= .int p then (.int p,l) else a:=by unfold dictPut;rw [if_pos x]
  have A:RO c y z (.dict (dictPut aC (.int p) l)):=by
   refine .dict (.int (by rw [bb];exact n) ?_ ?_) (by rw [g,bb];exact H)
   .rw [g]
    clear g x u n P E B H d e O I
    induction aC generalizing i with
    |nil=>induction i using ej with
     |nil=>exact .nil
     |cons _ _=>clear r s w j k q;contradiction
    |cons a ps M=>
     induction i using ej with
     |nil=>clear r s w j k M q;contradiction
     |cons N i=>
      simp only [eG,ix] at f⊢
      cases q with
      |cons W S=>
       have K:(a.1=AV.int p)↔N.1=p:=by rw [f.1];exact ⟨λh=>by injection h,λh=>by rw [h]⟩
       refine .cons ?_ (M _ S f.2)
       by_cases v:N.1=p
       .rw [if_pos v,if_pos (K.mpr v)];exact s.mono k
       .rw [if_neg v,if_neg (λV=>v (K.mp V))];exact W.mono k
   .rw [g,er,er]
    have Y:aC.map ((λl=>l.1)∘λa=>if a.1= .int p then (.int p,l) else a)=aC.map (·.1):=by
     apply fk;intro a _;simp only [ou];split
     .rename_i X;exact X.symm
     .rfl
    have Q:i.map ((λa:Int×eH=>AV.int a.1)∘λC=>if C.1=p then (C.1,J) else C)=i.map λa=>.int a.1:=by
     apply fk;intro a _;simp only [ou];split<;>rfl
    rw [Y,Q];exact f
  obtain ⟨G,F⟩:=r.upd (t:=m.toks+1) (o:=.dict (dictPut aC (.int p) l)) e j (.inl (iz rfl (by (repeat intro _);contradiction) (by (repeat intro _);contradiction))) A
  exact E _ G F
 .have k:=r.nN w j
  have x:AV.int p∉aC.map (·.1):=λU=>by
   have:=(nZ f).mpr U
   rw [u] at this;contradiction
  have g:dictPut aC (.int p) l=aC++[(.int p,l)]:=by unfold dictPut;rw [if_neg x]
  have A:RO c y z (.dict (dictPut aC (.int p) l)):=by
   refine .dict (.int (by rw [bh];exact n) ?_ ?_) (by rw [g,bh];exact B)
   .rw [g,b_,b_];exact (q.mono k).append (.cons (s.mono k) .nil)
   .rw [g,b_,b_,f];rfl
  obtain ⟨G,F⟩:=r.upd (t:=m.toks+1) (o:=.dict (dictPut aC (.int p) l)) e j (.inl (iz rfl (by (repeat intro _);contradiction) (by (repeat intro _);contradiction))) A
  exact E _ G F
theorem Fu (h:IntKeys aC) (i:Int) (x:AV):IntKeys (dictPut aC (.int i) x):=λp a=>by
 unfold dictPut at a
 split at a
 .refine iQ p (ck.mp a) λq b=>?_
  split
  .exact ⟨i,rfl⟩
  .exact h q b
 .rcases eF.mp a with a |a
  .exact h p a
  .rw [dk] at a;subst a;exact ⟨i,rfl⟩
theorem Pl (k x:AV):(dictPut aC k x).length<=aC.length+1:=by
 unfold dictPut
 split
 .rw [bb];exact eg aC.length 1
 .rw [bh];exact eJ _
theorem uL:entryFor table "dict.update.loop"=some vY.«dict.update.loop»:=entryFor_of_tree (by kernel_rfl)
theorem pj:plainId "dict.update.loop"=true:=by decide+kernel
theorem St.but (y:St c q ae b m) (a:vN z m aZ) (g:ae.heap.get? z=none):St c q ae b aZ:=
 ⟨λd o e f=>a.keep d o (λh=>by clear y a f;subst h;rw [g] at e;contradiction) (y.keep d o e f),y.foot⟩
theorem Mw (kn:aV≠z) (Q:L.handled=none) (V:c.h₀.get? cU=none) (O:m.heap.get? cU=none):∀(left:List (AV×AV)) {u:Nat} {S:Int} {g:List (AV×AV)} {a:AS} {s:eL},a z=some (.dict g)->a aV=some (.list j)->IntKeys g->j.drop u=left.map (λp=>.tup [p.1,p.2])->
 (∀p∈left,∃k,p.1= .int k)->g.length+left.length<=fE->R c a s->St c b m a s->wK c s.heap cU (.list aV j) j u->¬ic c a cU->
 (∀F,R c (a.set z (.dict (left.foldl (λd p=>dictPut d p.1 p.2) g))) F->St c b m (a.set z (.dict (left.foldl (λd p=>dictPut d p.1 p.2) g))) F->bG (.ok (.ret .none)) F)->
 sr (hJ c.prog c.w) L (.builtin "dict.update.loop" ⟨[.ref z,.ref cU,.int S 0,.none],[]⟩) bG s:=by
 intro left
 induction left with
 |nil=>
  intro u S g a s I D J G M B r y q E U
  refine Ul uL ?_
  rw [Around.under_plainId pj _]
  unfold vY.«dict.update.loop»
  have C:j[u]? =none:=by
   rw [i6]
   have:=congrArg fi G
   rw [ey] at this;simp at this;exact nG this
  have K:∀o,s.heap.get? cU=some o->¬f' o:=λo e=>by refine eS q.nf λo' h P=>?_;rw [e] at h;(injection h with h;subst h);exact P
  refine b5 (Sn (el (q.done (A:=L.in1) r D Q C) (λkz kq H=>?_) λ_ _ e=>e))
  refine iK H λe x=>?_
  clear kn Q D J G M B q C H;subst e
  show f_ _ _ (Uv z []>>= λ_=>ret .none) _ _ _
  refine b5 (dj (dj (U kq ?_ ?_)))
  .rw [Qi,AS.set_same I];exact r.but x E V K
  .rw [Qi,AS.set_same I];exact y.but x O
 |cons p left ih=>
  intro u S g a s I D J G M B r y q E U
  refine Ul uL ?_
  rw [Around.under_plainId pj _]
  unfold vY.«dict.update.loop»
  refine j_ (M p (.head _)) λk km=>?_
  have C:j[u]? =some (.tup [p.1,p.2]):=by
   have:(j.drop u)[0]? =some (.tup [p.1,p.2]):=by rw [G];rfl
   rw [pa] at this;simpa using this
  have K:∀o,s.heap.get? cU=some o->¬f' o:=λo e=>by refine eS q.nf λo' h P=>?_;rw [e] at h;(injection h with h;subst h);exact P
  refine b5 (Sn (el (q.next (A:=L.in1) r D C) (λkz kq H=>?_) λ_ _ e=>e))
  refine r5 H λw e x kl Y=>?_
  clear Q q C H;subst e
  have Z:=r.but x E V K
  have kB:=y.but x O
  refine g0 w (iB Y) λt kD n et lt qt=>?_
  refine jS qt.two λv1 v2 ev W q2=>?_
  rw [km] at W
  refine j_ (gn W) λt1 ky=>?_;clear V O r y K x Y lt qt W;subst ky
  dsimp only
  refine b5 (f5 (b5 (wpAny_tryCatch ?_)))
  unfold Us
  refine b5 (sq (oO et) ?_)
  rw [if_pos (by decide)]
  refine b5 (sU et rfl (dj ?_))
  show f_ _ _ (match kD.toList with |[k,v]=>yR [k,v] (K0 z k v) |l=>_) _ _ _
  rw [ev]
  refine f5 (Sn (Hq Z I J (by simp at B;exact pJ B) q2 λkF kx N=>?_))
  refine dj ⟨VU pj _,?_⟩
  have ku:¬ic c (a.set z (.dict (dictPut g (.int k) p.2))) cU:=λf=>(N.foot cU f).elim E λl=>by refine eS kl.nf λo e _=>?_;rw [l] at e;contradiction
  refine ih (u:=u+1) (g:=dictPut g (.int k) p.2) (gW _ _ _) ?_ (Fu J _ _) ?_ (λp' kC=>M p' (.tail _ kC)) ?_ kx (kB.trans N) ?_ ku ?_
  .rw [gv kn];exact D
  .rw [<-ig,G];rfl
  .have:=Pl (aC:=g) (.int k) p.2
   simp at B;exact sw B this
  .exact kl.mono (N.frozen Z) λo e=>N.keep cU o e E
  .intro F T X
   rw [Oe] at T X
   rw [<-km] at T X
   exact U F T X
theorem Pm:zF c 6:=λR kq P Q vs b h C r B=>by
 replace h:=qH h;obtain ⟨x0,rfl,h⟩:=h
 replace h:=xo h;obtain ⟨a,ps,rfl,e,h⟩:=h
 refine jj vs B.one λv z=>?_
 have:=gM z;clear B z;subst this
 refine gi h λkm m U hQ=>?_
 refine gp (r.isList e) λN k g q l il hz=>?_
 have y:b.heap.get? b.heap.objs.size=none:=ik _
 refine callType_codes (Q₁:=λt j=>t= .ref b.heap.objs.size/\j={b with heap:=b.heap.push {cls:=.type "dict",data:=.dict #[]}}) F.kt_called_dict (F.kt_typeCall_dict_1 _) F.entry_dict_init (kt_code_dict_new _ ⟨rfl,rfl⟩) ?_
 intro t j V;refine Qm t V λH=>?_
 have w:fH b j:=by rw [H];exact jw _ _
 have u:j.heap.DictAt (t8 c) b.heap.objs.size [] 0:=by rw [H];exact nX _ (#[]) (eW _ rfl) ⟨rfl,rfl,rfl⟩ rfl (by intro e W;simp at W) .nil eI
 generalize kx:b.heap.objs.size=D at y u
 obtain ⟨fD,X,Z⟩:=r.L8 (o:=.dict []) w y (.dict (.int u .nil rfl) (ft _)) (by (repeat intro _);contradiction)
 have E:a≠D:=λq=>by subst q;rw [y] at g;contradiction
 have L:=u.dictOf.typeIs (s:=j)
 refine iz L (F.args_dict_init_2 _ _) ?_
 unfold vY.«dict.__init__»
 refine b5 ?_
 unfold Ur
 refine b5 (wL L ?_)
 show f_ _ _ (pure (D,[K7 a])) _ _ _
 refine dj ?_
 show f_ _ _ (zx "dict.__init__" D (.ref a) [] .none) _ _ _
 unfold zx
 have kn:(P.set D (.dict [])) a=some (.list ps):=by rw [gv E];exact e
 have n:=w.keep _ _ g
 refine b5 (sq (T:="list") (ei _ n rfl) ?_)
 rw [if_pos (by decide)]
 refine b5 (wi n C.handled λd f=>?_)
 simp only [H9,if_true]
 refine b5 (nE ?_)
 have I:=X.grow f
 have M:d.heap.IsList a N:=sZ _ (f.keep _ _ n) rfl _ rfl
 refine b5 (BG M ?_)
 have G:=jw d {cls:=.type "list_iterator",data:=.fields #[.ref a,.int 0 0]}
 have x:d.heap.get? d.heap.objs.size=none:=ik _
 have Y:b.heap.get? d.heap.objs.size=none:=by
  induction e:b.heap.get? d.heap.objs.size using d7 with
  |none=>rfl
  |some ku=>rw [f.keep _ _ (w.keep _ _ e)] at x;contradiction
 refine iK (I.kh x) λkl O=>?_
 refine dj ⟨VU pj _,?_⟩
 refine Mw (L:=R.in1) (j:=ps) E C.handled O Y km (u:=0) (g:=[]) (gW _ _ _) kn (λp m=>by exact (ee m).elim) m (λp S=>U p S) ?_ (I.grow G) (Z.trans (.grow (f.trans G))) ?_ kl ?_
 .have:=congrArg fi m
  rw [bb] at this
  simp only [qK];exact n1 ((iW _).trans this.symm) l
 .exact .list (gq _ (eW _ rfl) rfl rfl) (λq=>by
   have:=f.keep _ _ n
   rw [q,x] at this;contradiction)
 .intro s' K J
  rw [Oe] at K J
  exact ⟨rfl,.ref D,_,.ref D,K,J,hQ D fD⟩
theorem Rx (a:gU c):Mt c
 |0=>Rf a
 |1=>J0 a
 |2=>Rg
 |3=>Rh
 |4=>L6
 |5=>L7
 |6=>Pm
 |7=>Rk
 |8=>Ri
 |9=>Rj
 |10=>O4
 |_+11=>λ_ b _ _ _ _ h=>by contradiction<;>exact h.elim
structure xt (B:Base):Prop where
 hd:CodeHd B.h₀ B.lc B.tab
 bt:B.h₀.BuiltinsAt B.mg B.tab
 gt:iD≠B.tab
 Hb:B.Hb=B.EW++("<lambda>":j7)
theorem Hr (l:List eH) (h:SJ l) (a:yT aa (l++[KZ p,KZ aB,J])=some aT):yT aa l=some aT\/aT=J:=by
 fun_induction SJ l with
 |case1=>
  simp only [BB,yT,KZ] at a
  split at a
  .obtain rfl:=d3 a;exact .inr rfl
  .contradiction
 |case2 p t aB u x f c=>
  simp only [iI,yT] at a⊢
  split at a
  .rename_i b;rw [if_pos b];exact .inl a
  .rename_i b;rw [if_neg b];exact c h a
 |case3 l e d=>exact h.elim
theorem Pn (x:H.BuiltinsAt bu z) (k:∀b o,b≠z->H.get? b=some o->b8.get? b=some o):b8.BuiltinsAt bu z:=
 iP x λd o e g h a c f=>(nX d o e g h a (k _ _ a c) f)
noncomputable def uM (B:Base) (a:yX) (b:gc) (sc:En) (cv:eH):Obj:=
 {cls:=.type "function",data:=.func (kla_fn "<lambda>" B.Hb a b sc [] ((B.mg "__name__").getD .none) cv .none)}
variable {cI:yX}
theorem Mx (HB:gU c) (E:xt c) (r:R c b m) (ky:ab.globals=iD) (V:ab.code= .ref c.lc) (kl:GU aJ ab=pure []) (h:∀f k j,m.heap.get? f=none->k.heap.get? f=some (uM c cI a0 aJ j)->uz k.heap j c.Hb->R c b k->St c b m b k->aG (.ref f) k):
 WE c L (makeTail "<lambda>" c.Hb cI (.expr a0) aJ ab .none .none none aa a) aG m:=by
 refine gi r.tab λps w s I=>?_
 have C:=E.hd.keeps r.old
 have D:=HB.g.keeps r.old
 have kD:=Pn E.bt λa0 o _ e=>r.old a0 o e
 refine qX kD λbm ob ku=>Cc ku λH U kM kG Q S K M=>?_
 unfold makeTail
 rw [kl,ky]
 refine b5 (dj ?_)
 simp only [N9,if_true]
 refine b5 (dj ?_)
 induction B:yT aa ps.toList using d7 with
 |some j=>
  refine b5 (wpAny_functionCode_hit V (C.code w s) B ?_)
  refine b5 (R7 D H U Q S K M ?_)
  refine b5 (Yq D ?_)
  refine b5 (dj (ko ?_ (by size_fits)))
  have g:=jw m (uM c cI a0 aJ j)
  exact h _ _ j (ik _) (eW _ rfl) ((I _ _ B).mono λcI o e _=>fm _ e) (r.grow g) (.grow g)
 |none=>
  refine b5 (wpAny_functionCodeX V (C.code w s) (C.tab w) B λd i tk z kB X _ kC kq kz=>?_)
  have F:=D.extBut z E.gt
  refine b5 (R7 F H U (z _ _ kG Q) S K M ?_)
  refine b5 (Yq F ?_)
  refine b5 (dj (ko ?_ (by size_fits)))
  obtain ⟨P',kI,-,⟨O,vc,P,kH,J,-⟩,-⟩:=kz
  refine yc kC λkK kJ vs t A y kn hv=>?_
  (injection A with A;subst A)
  rw [P] at y;(injection y with y;subst y)
  have W:f' O:=iz (.inr (.inr kH)) (λes ep=>(by rw [J];exact (by (repeat intro _);contradiction))) (λv=>(by rw [J];exact (by (repeat intro _);contradiction)))
  have l:∀n o,n≠c.tab->m.heap.get? n=some o->(i.push (uM c cI a0 aJ (.ref d))).get? n=some o:=λn o hb e=>fm _ (z n o hb e)
  have G:∀p o,m.heap.get? p=some o->f' o->(i.push (uM c cI a0 aJ (.ref d))).get? p=some o:=λp o e f=>l p o (λq=>by rw [q,w] at e;(injection e with e;subst e);exact LG _ f) e
  have kF:(i.push (uM c cI a0 aJ (.ref d))).get? c.tab=some (K5 (ps++#[KZ aa.line,KZ aa.col,.ref d])):=fm _ kq.2
  have h0:c.h₀.get? c.tab=none:=r.new _ (.inr (.inr rfl))
  have ne:∀{p o},b p=some o->p≠c.tab:=λe q=>by rw [q,r.vC] at e;contradiction
  have T:uz (i.push (uM c cI a0 aJ (.ref d))) (.ref d) c.Hb:=⟨d,O,vs,t,rfl,(fm _ P),W,kn,hv⟩
  have kx:m.heap.get? i.objs.size=none:=get?_none_of_le (by exact a_ kB (eA X))
  refine h i.objs.size _ (.ref d) kx (eW _ rfl) T ⟨λp o e=>?_,λp o e=>?_,r.new,r.Cq,r.vC,(gq _ kF ?_ (λkN j u=>?_)),r.gens,r.os⟩ ⟨λp o e Z=>l p o (λq=>Z (.inr (.inr q))) e,λp f=>.inl f⟩
  .refine (r.objs p o e).mono G (λx=>l p x (ne e)) λkm N Y q=>?_
   subst q
   exact λx=>l N x (r.Cq p km N Y e).2.1
  .exact l p o (λq=>by rw [q,h0] at e;contradiction) (r.old p o e)
  .rw [oB]
   exact TriplesOk_snoc _ _ _ _ s
  .rw [oB] at u
   rcases Hr _ s u with u |rfl
   .exact (I _ _ u).mono G
   .exact T
theorem J8 (h:G_ aJ d4=true):∃x u,d4=[⟨x,none,u⟩]/\slots aJ.names=[x]/\h_ aJ.names x=some .local:=by
 match d4,h with
 |[⟨x,c,u⟩],h=>
  simp only [G_,eV,decide_eq_true_eq,BK] at h
  obtain ⟨⟨rfl,a⟩,b⟩:=h
  exact nr x u rfl a b
theorem zi (h:Co cI aJ=true):∃x u,cI=⟨[],[⟨x,none,u⟩],none,[],[],none,[]⟩/\Dp aJ=true/\(∀y,(y,fB)∉aJ.names)/\slots aJ.names=[x]/\h_ aJ.names x=some .local:=by
 unfold Co at h
 simp only [eV,p_,BK] at h
 obtain ⟨⟨⟨⟨⟨⟨⟨⟨e,a⟩,f⟩,d⟩,c⟩,g⟩,k⟩,l⟩,b⟩:=h
 obtain ⟨o,m,q,p,kd,n,r⟩:=cI
 dsimp only at e a f d c g b
 subst e a f d c g
 refine v9 m (J8 b) λx u i j=>?_
 exact qW x u rfl k (wg l) i j
theorem My {a:List (j7×gX)} (h:∀y,(y,fB)∉v):qC cj v a=a:=by
 induction v with
 |nil=>rfl
 |cons p r b=>
  obtain ⟨x,k⟩:=p
  have c:k≠.free:=λq=>h x (by rw [q];exact .head _)
  rw [qC,if_neg c]
  exact b λy d=>h y (.tail _ d)
theorem Mz (t:gU c) (j:xt c) (F:FR c ab v e b m) (r:R c b m) (q:BN v=true) (g:Co cI aJ=true) (h:∀f a i,m.heap.get? f=none->a.heap.get? f=some (uM c cI a0 aJ i)->uz a.heap i c.Hb->R c b a->St c b m b a->aG (.ref f) a):
 WE c L (vV (.Lambda cI a0 aJ aa) ab) aG m:=by
 refine gp (zi g) λx u o l d w k=>?_;clear g l w k;subst o
 refine iK (F.code q) λz p=>?_
 have s:GU aJ ab=pure []:=by
  rw [vP λy n=>absurd n (d y),My d]
 refine kla_eval rfl ?_
 rw [p,<-j.Hb,makeFunction_eq]
 simp only [List.zip_nil_right,List.filterMap_nil,N9,if_true,pure_bind]
 exact Mx t j r F.ok.globals z s h
theorem MA (HB:gU c) (V:Co cI aJ=true) (hb:SE c a aJ.names a0 g) (ho:m.heap.get? z=some (uM c cI a0 aJ J)) (kD:uz m.heap J c.Hb) (r:R c b m) (q:RV c m.heap aT l) (kK:L.depth<recursionLimit) (hr:∀H,mO a (L.deeper H)) (h:VE PG (eE PG a) g [some l] b n):WE c L (nB (.ref z) [aT] []) (k4 c b m n) m:=by
 refine gp (zi V) λy u km Z kG W kB=>?_;clear V;subst km
 refine iK (DF Z) λky kJ=>?_
 refine qk (q7 ky) λk1 k2 k3 C Y=>?_
 obtain ⟨j,oc,ku,t,rfl,kN,-,kM,K⟩:=kD
 have kI:m.heap.CodeRec (.ref j) c.Hb:=vd j oc ku t rfl kN kM K
 refine QP ?_
 refine kla_callFunE kK ho rfl k3 k2 rfl kI ?_
 refine IP (d4:=[⟨y,none,u⟩]) (az:=[]) (a:=[]) rfl (by simp) (λK=>dj (K none rfl)) (by simp) (by simp) (by simp) ?_
 refine el (AD (c:=c) (L:=L.in1) (m:=m) (Q:=λH v=>v.heap.NoLimit/\sr (hJ c.prog c.w) L (.expr a0 H) (λr S=>match r with | .ok (.ret aT)=>k4 c b m n aT S | .ok _=>False | .error e=>Vt e S) v) C ?_) (λ_ _ q=>q) λ_ _ e=>e.elim
 intro F G kx M
 have kC:FR c (vU aJ F iD G (c.Hb++".<locals>.") (some z) (.ref j) none j0) aJ.names (gk (slots aJ.names).length none) b kx:=by
  refine DG r C M _ rfl rfl k1 rfl rfl (λl k f=>.inl ?_) Y (λl f=>absurd f (kG l)) (λl j f=>by contradiction) (λl y j f=>by contradiction) (λi l aT hi I=>?_) (by simp) λkq=>by rw [kJ] at kq;contradiction
  .show pd l aJ.names=some k
   rw [<-sA];exact f
  .rw [tL] at I
   split at I<;>first |contradiction |(injection I;contradiction)
 have kl:=r.grow M.grow
 have kF:[y].map (oj aJ.names)=[0].map some:=by
  simp only [eG,pC,ix,and_true]
  unfold oj
  rw [kB]
  show r6 _ y=_;rw [W,Ck];exact if_pos rfl
 refine zg (j:=[y]) (l:=[0]) (e:=[aT]) (a:=[l]) kF kC kl (.cons (q.grow M.grow) .nil) rfl λv U P O=>⟨zh HB P,?_⟩
 have N:∀d o,m.heap.get? d=some o->¬Own aJ.names (vU aJ F iD G (c.Hb++".<locals>.") (some z) (.ref j) none j0) d:=λd o e w=>by
  rcases w with w |⟨l,f,D⟩
  .have w:d=F:=w
   rw [w,M.fresh] at e;contradiction
  .have D:G.lookup l=some d:=D
   refine gi (M.own l ((jT C).mp f)) λc' x h2 _=>?_
   rw [D] at x;(injection x with x;subst x)
   rw [h2] at e;contradiction
 refine kla_codeExpr ?_
 have hm:pE (gk (slots aJ.names).length none) [0] [l]=[some l]:=by rw [W];rfl
 rw [hm] at U
 refine el (hb (L.deeper _) _ _ b v n (hr _) U P h) (λw kO ζ=>?_) λ_ _ e=>e.elim
 obtain ⟨kz,X,qz,kn,T,hz⟩:=ζ
 refine ⟨kz,X,qz,kn,⟨λd o e p=>T.keep d o (O.keep d o (M.grow.keep d o e) p (N d o e)) p,λd kH=>?_⟩,hz⟩
 rcases T.foot d kH with E |E
 .exact .inl E
 .induction e:m.heap.get? d with
  |none=>exact .inr rfl
  |some o=>
   refine .inl (gg λp=>?_)
   rw [O.keep d o (M.grow.keep d o e) p (N d o e)] at E
   contradiction
structure wj (B:Base) (st:AS) (a:gX) (s s':eL):Prop where
 r:R B st s'
 keep:∀b o,s.heap.get? b=some o->b≠a->¬ic B st b->s'.heap.get? b=some o
theorem wj.frozen (x:wj c b z m ae) (r:R c b m) (d:∀o,m.heap.get? z=some o->¬f' o):∀p o,m.heap.get? p=some o->f' o->ae.heap.get? p=some o:=λp o e f=>
 x.keep p o e (λq=>d o (q▸e) f) λq=>by
  refine eS (r.oC q) λg a n=>?_
  rw [e] at a;obtain rfl:=d3 a;exact n f
theorem wj.step (x:wj c b z m ae) (y:St c b ae b aZ) (r:R c b aZ):wj c b z m aZ:=⟨r,λa o e f d=>y.keep a o (x.keep a o e f d) d⟩
theorem wj.but (x:wj c b z m ae) (d:vN aV ae aZ) (j:¬ic c b aV) (k:c.h₀.get? aV=none) (h:∀o,ae.heap.get? aV=some o->¬f' o) (a:aV=z\/m.heap.get? aV=none):wj c b z m aZ:=
 ⟨x.r.but d j k h,λf o e g i=>d.keep f o (λq=>by
  rcases a with a |a
  .exact g (q.trans a)
  .rw [q,a] at e;contradiction) (x.keep f o e g i)⟩
theorem MB (q:hU c H aj j) (p:RV c H J l):hU c H (aj++[J]) (j++[l]):=q.append (.cons p .nil)
theorem Fv {k:AV->AV} {P:Um->eL->Prop} (r:R c b m) (C:m.heap.get? z=some (gr "list" aj.toArray a)) (km:¬ic c b z) (X:c.h₀.get? z=none) (t:aj.length<6) (S:L.units+60<vz) (q:hU c m.heap aj j) (hs:qY (j.map k)) (hc:(j.map k).Pairwise gV) (kF:∀(i:Nat) v x d,aj[i]? =some v->j[i]? =some x->wj c b z m d->RV c d.heap v x->WE c L (nB J [v] []) (k4 c b d λy l=>y=k x/\l=b) d) (h:∀(p:Array Nat) d lg,Fm aj.length p->yp (rk (j.map k)) p aj.length->wj c b z m d->d.heap.get? z=some (listOf (jf (p.toList.map λi=>aj.getD i jn)) lg)->P (.done (.ret .none)) d):
 f_ (hJ c.prog c.w) L (ksk_tree z J false) P aG m:=by
 have hz:=nC
 have A:=q.length
 have Z:∀o,m.heap.get? z=some o->¬f' o:=λo e=>by rw [C] at e;(injection e with e;subst e);exact qG _ _
 obtain ⟨D,kx⟩:∃D,(m.heap.update z (fJ λ_=>(#[]:Array eH))).get? z=some (gr "list" #[] D):=oJ _ (rV C λ_=>#[])
 have kP:=gJ m.heap z (fJ λ_=>(#[]:Array eH))
 unfold ksk_tree
 refine b5 (K9 C rfl ?_)
 refine b5 (rt C rfl ?_ (by rw [j4];exact Ol t) (ft _))
 refine b5 (Eu kx rfl ?_)
 refine b5 (UU ?_ (by show aj.length<=_;exact Ol t))
 refine b5 (zM ?_ (ft _))
 refine f5 ?_
 show f_ _ L _ P aG {m with heap:=((m.heap.update z (fJ λ_=>(#[]:Array eH))).push (gr "tuple" aj.toArray 0)).push (gr "list" #[] 0)}
 have kO:(((m.heap.update z (fJ λ_=>(#[]:Array eH))).push (gr "tuple" aj.toArray 0)).push (gr "list" #[] 0)).get? z=some (gr "list" #[] D):=fm _ (fm _ kx)
 have N:vN z m {m with heap:=((m.heap.update z (fJ λ_=>(#[]:Array eH))).push (gr "tuple" aj.toArray 0)).push (gr "list" #[] 0)}:=
  ⟨λkU o N e=>fm _ (fm _ ((kP.2 kU N).trans e)),rfl,rfl⟩
 have ku:(((m.heap.update z (fJ λ_=>(#[]:Array eH))).push (gr "tuple" aj.toArray 0)).push (gr "list" #[] 0)).get? ((m.heap.update z (fJ λ_=>(#[]:Array eH))).push (gr "tuple" aj.toArray 0)).objs.size=some (gr "list" #[] 0):=eW _ rfl
 have O:m.heap.get? ((m.heap.update z (fJ λ_=>(#[]:Array eH))).push (gr "tuple" aj.toArray 0)).objs.size=none:=by
  refine get?_none_of_le ?_
  rw [rE,Heap.size_update];exact eg m.heap.objs.size 1
 generalize kQ:((m.heap.update z (fJ λ_=>(#[]:Array eH))).push (gr "tuple" aj.toArray 0)).objs.size=kS at ku O
 generalize kz:({m with heap:=((m.heap.update z (fJ λ_=>(#[]:Array eH))).push (gr "tuple" aj.toArray 0)).push (gr "list" #[] 0)}:eL)=s2 at N⊢
 have kD:s2.heap.get? z=some (gr "list" #[] D):=by rw [<-kz];exact kO
 have kB:s2.heap.get? kS=some (gr "list" #[] 0):=by rw [<-kz];exact ku
 have U:wj c b z m s2:=(⟨r,λkU o e _ _=>e⟩:wj c b z m m).but N km X Z (.inl rfl)
 refine iK (r.kh O) λkl ky=>?_
 have kI:kS≠z:=λe=>by rw [e,C] at O;contradiction
 clear kz kO ku kP kx
 unfold ksk_rest
 refine b5 (nE ?_)
 rw [List.forIn_toArray]
 refine b5 (ksk_fold (λi d=>wj c b z m d/\d.heap.get? z=some (gr "list" #[] D)/\∃f e,d.heap.get? kS=some (gr "list" f e)/\hU c d.heap f.toList ((j.map k).take i)) aj 0 s2
  (rI U kD (#[]) 0 kB .nil) ?step ?done)
 case step=>
  clear C X S hs hc h hz kQ N kD kB U;intro B v d hv kT;refine oH kT λH T f e E u=>?_
  simp only [iW] at u⊢
  have W:B<aj.length:=(ew.mp hv).1
  clear kT;obtain ⟨x,hx⟩:∃x,j[B]? =some x:=oJ _ (df (by exact fA W A))
  have qv:RV c d.heap v x:=by
   refine eS (q.get hx) λv' kn p=>?_
   rw [hv] at kn;(injection kn with kn;subst kn)
   exact p.mono (H.frozen r Z)
  have n:=u.length
  rw [eB,fR] at n
  refine b5 (wpAny_attempt (el (kF B v x d hv hx H qv) (λw I ζ=>?_) λ_ _ hF=>hF.elim))
  clear q kF A Z hv qv;obtain ⟨y,l,qy,lx,Y,hy,lu⟩:=ζ
  subst hy lu
  have H':=H.step Y lx
  have na:=Y.keep _ _ T km
  have nk:=Y.keep _ _ E kl
  have kY:=u.step H.r Y
  dsimp only
  have V:=gJ I.heap kS (fJ (·.push w))
  obtain ⟨c2,lr⟩:∃c2,(I.heap.update kS (fJ (·.push w))).get? kS=some (gr "list" (f.push w) c2):=oJ _ (rV nk (·.push w))
  have bk:vN kS I {I with heap:=I.heap.update kS (fJ (·.push w))}:=yo V
  have F:∀o,I.heap.get? kS=some o->¬f' o:=λo e=>by rw [nk] at e;(injection e with e;subst e);exact qG _ _
  refine b5 (rt nk rfl ?_ (by exact TL t W n) (a_ (gu (Array.size_push ..)) (by exact fg (TL t W n))))
  refine dj ⟨rfl,(H'.but bk kl ky F (.inr O)),((V.2 z kI.symm).trans na),(f.push w),c2,lr,?_⟩
  rw [so]
  have ek:(j.map k).take (B+1)=(j.map k).take B++[k x]:=by rw [K_,ed,hx];rfl
  rw [ek]
  exact MB (kY.but bk F) (qy.but bk F)
 case done=>
  intro g kN;refine oH kN λH T f e E u=>?_
  have e3:(j.map k).take (0+aj.length)=j.map k:=mZ (by rw [bb];exact gu (A.symm.trans (iW _).symm))
  rw [e3] at u
  have n:=u.length
  rw [eB,bb] at n
  refine b5 (K9 E rfl ?_)
  have F:∀o,g.heap.get? kS=some o->¬f' o:=λo e=>by rw [E] at e;(injection e with e;subst e);exact qG _ _
  have kK:Ml c L z f.toList (rk (j.map k)) g:=Fo S u hs hc λo e=>by rw [T] at e;(injection e with e;subst e);exact qG _ _
  have kV:∀(p:Array Nat) (l:SortSt),Fm aj.length p->yp (rk (j.map k)) p aj.length->(arrOf l).map (·.2)=jf (p.toList.map λi=>aj.getD i jn)->U7 l=none->f_ (hJ c.prog c.w) L (ksk_tail z false D (.ref kS) l) P aG g:=by
   intro p l M kJ kC ly
   unfold ksk_tail
   have kX:(jf (p.toList.map λi=>aj.getD i jn)).size=aj.length:=by rw [j4,bb,eB,M.size]
   have V:=gJ g.heap kS (fJ λ_=>(#[]:Array eH))
   have Sj:(g.heap.update kS (fJ λ_=>(#[]:Array eH))).get? z=some (gr "list" #[] D):=(V.2 z kI.symm).trans T
   have bk:vN kS g {g with heap:=g.heap.update kS (fJ λ_=>(#[]:Array eH))}:=yo V
   have H1:=H.but bk kl ky F (.inr O)
   have kZ:=gJ (g.heap.update kS (fJ λ_=>(#[]:Array eH))) z (fJ λ_=>jf (p.toList.map λi=>aj.getD i jn))
   have b2:vN z {g with heap:=g.heap.update kS (fJ λ_=>(#[]:Array eH))} {g with heap:=(g.heap.update kS (fJ λ_=>(#[]:Array eH))).update z (fJ λ_=>jf (p.toList.map λi=>aj.getD i jn))}:=yo kZ
   have U:=H1.but b2 km X (λo e=>by rw [Sj] at e;(injection e with e;subst e);exact qG _ _) (.inl rfl)
   rw [kC]
   dsimp only
   refine b5 (rt E rfl ?_ (by exact n1 (n.trans A.symm) (Ol t)) (ft _))
   refine b5 (Ys ?_)
   refine b5 (Eu Sj rfl ?_)
   refine b5 (rt Sj rfl ?_ (ft _) (by simp only [fW,if_false];exact n1 kX (fY (Ol t))))
   rw [ly]
   simp only [bne_self_eq_false,fW,if_false]
   exact dj (h p _ _ M kJ U (rV Sj λ_=>jf (p.toList.map λi=>aj.getD i jn)))
  unfold ksk_end
  simp only [fW,if_false]
  have kH:f=f.toList.toArray:=by simp
  clear kN;by_cases s:aj.toArray.size<2
  .rw [if_pos s,if_pos s]
   refine b5 (dj ?_)
   rw [StateT.run_pure]
   refine b5 (dj ?_)
   have s:aj.length<2:=by simpa using s
   refine kV (eQ aj.length).toArray _ (by unfold Fm;simp) (λi B lj W=>by rw [show i=B by exact V1 s lj W];exact eJ _) ?_ rfl
   have K:f.toList.length=aj.length:=by rw [eB];exact n.trans A.symm
   refine Ow K ?_
   have e:=kas_range (f.toList.toArray.zip aj.toArray)
   rw [show (f.toList.toArray.zip aj.toArray).size=aj.length by simp [n];exact tX (gu A)] at e
   show f.zip aj.toArray=_
   rw [e,<-kH]
  .rw [if_neg s,if_neg s]
   have kG:2<=aj.length:=by simpa using s
   rw [kH]
   have K:f.toList.length=aj.length:=by rw [eB];exact n.trans A.symm
   refine b5 (el (kK (by exact Vb kG K) g ⟨λ_ _ _ e=>e,rfl,rfl⟩) (λκ s4 ζ=>?_) λ_ _ e=>e.elim)
   clear r C km X q hs hc kF h hz A Z kQ O N kD kB U kl ky kI H T E u e3 n F kK kH s;refine iK ζ λkW kq=>?_
   clear ζ;subst kW
   rw [K] at kq
   refine b5 (el (kat_run (ks:=f.toList) (vs:=aj) (Q:=λl d=>∃p,Fm aj.length p/\yp (rk (j.map k)) p aj.length/\arrOf l=p.map (kas_item (f.toList.toArray.zip aj.toArray))/\U7 l=none/\d=s4) (G:=λp d=>Fm aj.length p/\yp (rk (j.map k)) p aj.length/\d=s4) K kG (by exact gF t (by decide))
    (λp l d _ a2 a3 a4=>⟨p,a4.1,a4.2.1,a2,a3,a4.2.2⟩) (IL kq (by exact t) λp M S=>(iz M S rfl))) ?_ λ_ _ e=>e)
   clear t S kG kq;intro lq d kM;obtain ⟨⟨⟩,l⟩:=lq;refine zT kM λp M kJ kC hf lh=>?_
   clear kM;subst lh
   exact kV p l M kJ (Ow K kC) hf
theorem R.TV (r:R c b m) (j:¬ic c b z) (v:c.h₀.get? z=none) (t:RO c m.heap z ay) (o:∀i s f,ay≠.inst i s f):
 b.free z/\R c (b.set z ay) m/\∀d,ic c (b.set z ay) d->ic c b d\/d=z:=by
 have n:b.free z:=⟨by
  induction e:b z with
  |none=>rfl
  |some y=>exact absurd (.inl (by rw [e];simp)) j,λd i f e=>j (.inr (.inl (qB d i f e)))⟩
 have p:z≠c.tab:=λe=>j (.inr (.inr e))
 have u:∀d,ic c (b.set z ay) d->ic c b d\/d=z:=by
  clear r j v t n p;rintro d (h |⟨a,i,f,h⟩ |h)
  .by_cases k:d=z
   .exact .inr k
   .rw [gv k] at h;exact .inl (.inl h)
  .by_cases g:a=z
   .subst g;rw [gW] at h;(injection h with h;subst h);exact absurd rfl (o _ _ _)
   .rw [gv g] at h;exact .inl (.inr (.inl (qB a i f h)))
  .exact .inl (.inr (.inr h))
 refine iz n ⟨λa y e=>?_,r.old,λd k=>?_,λa i s f e=>?_,?_,r.tab,r.gens,r.os⟩ u
 .clear j v o n p u;by_cases g:a=z
  .clear r;subst g;rw [gW] at e;(injection e with e;subst e);exact t
  .rw [gv g] at e;exact r.objs a y e
 .clear j t o n p;rcases u d k with h |rfl
  .exact r.new d h
  .exact v
 .have g:a≠z:=λq=>by subst q;rw [gW] at e;(injection e with e;subst e);exact absurd rfl (o _ _ _)
  rw [gv g] at e
  refine mV (r.Cq a i s f e) λx w B=>?_
  have A:s≠z:=λq=>n.2 a i f (q▸e)
  refine iz (by rw [gv A];exact x) w (λd D C l=>?_)
  clear r j v t n p u e g x w A;by_cases k:d=z
  .subst k;rw [gW] at l;(injection l with l;subst l);exact absurd rfl (o _ _ _)
  .rw [gv k] at l;exact B d D C l
 .rw [gv (nz p)];exact r.vC
theorem J9 (r:R c b m) (x:wj c b z m ae) (g:m.heap.get? z=none) (o:RO c ae.heap z ay) (l:∀d t u,ay≠.inst d t u) (h:∀d,b.free d->n (.ref d) (b.set d ay)):k4 c b m n (.ref z) ae:=by
 refine iK (r.kh g) λp s=>?_
 refine mV (x.r.TV p s o l) λf a k=>?_
 refine ⟨.ref z,_,.ref z,a,⟨λj ay e i=>x.keep j ay e (λq=>by rw [q,g] at e;contradiction) i,λj i=>?_⟩,h z f⟩
 clear r x o l p s f a;rcases k j i with h |rfl
 .exact .inl h
 .exact .inr g
theorem Po:JD=(iV "key"):=by unfold JD;decide+kernel
theorem DL:h_ GG vf=some (.bi 1):=by kernel_rfl
variable {dT:List h}
theorem Hs (c:∀x∈dq,∀y∈dT,dA x=dA y->x=y) (d:dq.map dA=dT.map dA):dq=dT:=by
 induction dq generalizing dT with
 |nil=>exact (jt.mp d.symm).symm
 |cons x dq e=>
  induction dT using ej with
  |nil=>contradiction
  |cons y dT=>
   refine iK (fo d) λg f=>?_
   rw [c x (.head _) y (.head _) g,e (λa j b i=>c a (.tail _ j) b (.tail _ i)) f]
theorem TX {c:AV->AV} (g:j.length=a) (p:Fm a cm) (F:yp (rk (j.map c)) cm a) (B:qY (j.map c)) (z:j.Pairwise λd b=>Lt (c d) (c b)\/Lt (c b) (c d)) (t:aN.Perm j) (C:aN.Pairwise λd b=>Lt (c d) (c b)):(cm.toList.map λi=>j.getD i .none)=aN:=by
 have s:=pO B
 have E:(j.map c).Pairwise gV:=gh.mpr (z.imp λh=>h.elim .inl λh=>.inr (.inr h))
 have o:∀i∈cm.toList,i<a:=λi f=>eU.mp (p.mem_iff.mp f)
 have l:(cm.toList.map λi=>j.getD i .none).Perm j:=CC (aj:=gk a jn) (by rw [pU];exact p) (by rw [pU];exact g)
 have e:(cm.toList.map λi=>j.getD i .none).map c=cm.toList.map λi=>(j.map c).getD i .none:=by
  rw [er]
  refine fk λi f=>?_
  have:=o i f
  show c (j.getD i .none)=_
  rw [jY (by exact fA (o i f) (id (rH g))),jY (by rw [bb];exact fA (o i f) (id (rH g))),zN]
 have G:((cm.toList.map λi=>j.getD i .none).map c).Pairwise λd b=>Lt d b\/d=b:=by
  rw [e]
  exact ze (a:=a) (by rw [bb];exact g) p F s E
 have A:(cm.toList.map λi=>j.getD i .none).map c=aN.map c:=by
  refine sa (r:=λd b=>(Lt d b\/d=b)/\oN 4 d) (λd b D I=>xr D.2 D.1 I.1) ((l.trans t.symm).map c) ?_ ?_
  .exact G.imp_of_mem λu _ h=>⟨h,s _ ((l.map c).mem_iff.mp u)⟩
  .refine gh.mpr (C.imp_of_mem λu _ h=>⟨.inl h,s _ ?_⟩)
   exact ck.mpr ⟨_,t.mem_iff.mp u,rfl⟩
 have J:∀x∈j,∀y∈j,c x=c y->x=y:=by
  intro x k y m v
  obtain ⟨i,f,rfl⟩:=qS k
  obtain ⟨w,H,rfl⟩:=qS m
  have h:=oz.mp z
  rcases zy i w with q |q |q
  .have:=h i w f H q
   rw [v] at this
   exact (this.elim Si Si).elim
  .clear g p F B z t C s E o l e G A k m v h;subst q;rfl
  .have:=h w i H f q
   rw [v] at this
   exact (this.elim Si Si).elim
 exact Hs (λx k y m=>J x (l.mem_iff.mp k) y (t.mem_iff.mp m)) A
theorem MC (K:gU c) (HL:xt c) (kz:2<=a) (H1:qn c 1):zW c a:=by
 intro ns f e lK kT b sc lp kp U cb D kW kM kV hc kD g t kU st s lF l F r h
 refine iK (kV c 1 K H1) λlq kZ=>?_
 unfold ye at D
 rw [eV,decide_eq_true_eq,decide_eq_true_eq] at D
 obtain ⟨D,kX⟩:=D
 obtain ⟨fp,rfl⟩:=Cm D
 have kH:ux GG ns vf=some (.cst (.bi 1)):=AI (by unfold vf td;decide+kernel) kX DL
 have hf:=xh (a:=a) K (aa:=fp) kH
 show WE c g (do let f <-vV (.Name vf fp) t;BH U f [] (sX U (ng [e] t)) (U2 U (Ov [⟨some JD,.Lambda kT b sc lp,kp⟩] t))) _ s
 refine b5 (el (hf g t kU st s (λv S=>v= .bi 1/\S=st) l F r ⟨rfl,rfl⟩) ?_ λ_ _ e=>e)
 intro fv lg lr;obtain ⟨x,lD,qf,T,Y,rfl,rfl⟩:=lr
 have lh:fv= .builtin "sorted":=by
  generalize j:AV.bi 1=z at qf
  induction qf using RV.casesOn with
  |bi a=>(injection j with j;subst j);rfl
  |_=>contradiction
 subst lh
 have ku:=F.step r Y
 have R:=vi hc t []
 refine Yx (P:=λ_=>True) (by rw [R];rfl) (λh _=>(ei .machine (.inr (.inl rfl)) (nx rfl))) ?_
 refine evalArgs_kw2 (by rfl) ?_ (he:=R)
 refine Wv (fZ (kD g t kU lD lg _ l ku T h) (λlC lL v V qv M kl hq=>Wu ?_)) R
 have kJ:=ku.step T kl
 refine kwAll_cons ?_
 refine Mz K HL kJ M kM kW λfa J cv kO Z lj I kx=>?_
 refine kwAll_nil ⟨trivial,?_⟩
 refine iK (M.kh kO) λkY lE=>?_
 show WE c g (nB (.builtin "sorted") [lC] [(JD,.ref fa)]) _ J
 rw [Po]
 have hu:=l.Ax
 have kC:=qv.step M kx
 refine el (Q:=k4 c V J lF) ?_ (λ_ _ p=>((p.trans kx).trans kl).trans Y) λ_ _ e=>e
 refine call_function_entry_kw Yz Ww Wx (ksk_s1 _ _) ?_
 unfold vY.«sorted»
 refine b5 (m:=YF "sorted" 1 1 _) (dj ?_)
 refine b5 (vQ (L:=g.in1) K l.handled I kC hq λC xs d E O G hl=>?_)
 refine Li G λN kn kN km X ys lG=>mV lG λkq kK hQ=>?_
 have j:=O.length
 have lA:=nC
 refine b5 (zM ?_ (by exact n1 j (Ol N)))
 have q:=jw d (listOf C.toArray 0)
 show f_ _ _ _ _ _ {d with heap:=d.heap.push (listOf C.toArray 0)}
 have B:({d with heap:=d.heap.push (listOf C.toArray 0)}:eL).heap.get? d.heap.objs.size=some (gr "list" C.toArray 0):=eW _ rfl
 have L:d.heap.get? d.heap.objs.size=none:=ik _
 generalize lu:({d with heap:=d.heap.push (listOf C.toArray 0)}:eL)=lH at q B
 generalize hp:d.heap.objs.size=p at B L
 have W:J.heap.get? p=none:=by
  induction e:J.heap.get? p using d7 with
  |none=>rfl
  |some u=>have:=E.keep _ _ e;rw [L] at this;contradiction
 have ky:=(I.grow E).grow q
 refine iK ((I.grow E).kh L) λkF kB=>?_
 have kG:(xs.map kn).Pairwise gV:=gh.mpr (X.imp λh=>h.elim .inl λh=>.inr (.inr h))
 have lB:fa≠p:=λe=>by rw [e,W] at Z;contradiction
 have lx:=q.keep _ _ (E.keep _ _ Z)
 have kP:∀u,lH.heap.get? p=some u->¬f' u:=λu e=>by rw [B] at e;obtain rfl:=d3 e;exact qG _ _
 refine b5 (f5 (wpAny_call_entry_kw U5 (ei _ B rfl) UB ?_ (ksk_l1 _ _)))
 rw [ksk_t1]
 refine Fv (k:=kn) ky B kF kB (by exact S9 j N) (by show g.units+1+1+60<vz;exact ul 62 hu rfl) (O.grow q) km kG (λi w x s' hw G H qw=>?_) λpm ly cc kQ lJ H lz=>ei _ rfl ?_
 .have kI:x∈xs:=fh G
  have hv:=kN x kI (λy S=>y=kn x/\S=V) ⟨rfl,rfl⟩
  clear HL H1 kM kV hc kD D kX kH hf T F h Y qf ku R qv M kl hq kJ kO Z I kx lE hu kC O hl N kN km X kq kK hQ j lA lu hp B L W kF kB kG hw G kI;clear G;obtain ⟨n',rfl⟩:∃n',a=n'+1:=oJ (a -1) (by exact Of kz)
  refine MA K kW lq (H.keep _ _ lx lB kY) ((lj.mono λkT u e _=>q.keep _ _ (E.keep _ _ e)).mono (H.frozen ky kP)) H.r qw ?_ (λt=>⟨?_,?_,l.handled⟩) (kZ _ _ _ _ hv)
  .have:=l.depth;show g.depth<1000;exact r4 this
  .have:=l.depth;show g.depth+1+10*1<=900;exact (s5 (ak:=11) this kz rfl:)
  .have:=l.units;show g.units+1+1+3+100*1<=9000;exact (s5 (ak:=105) this kz rfl:)
 .refine dj (ei _ rfl ?_)
  have e:=TX (a:=C.length) j.symm kQ lJ km X kq kK
  have lI:wj c V p J ly:=⟨H.r,λb u e hb hn=>H.keep b u (q.keep _ _ (E.keep _ _ e)) hb hn⟩
  refine J9 I lI W (ay:=.list ys) (.list lz ?_ ?_) (by (repeat intro _);contradiction) hQ
  .rw [<-e]
   exact Fq ((O.grow q).mono (H.frozen ky kP)) λi hi=>eU.mp (kQ.mem_iff.mp hi)
  .rw [kq.length_eq];unfold fE;exact a_ (eA N) (by decide)
theorem Ry (a:gU c) (f:AG Qz c) (e:xt c) (n:Nat):qn c n:=
 (Mu a (Rw a) f (Rx a) (λn b d _=>MC a e b d) n).1
noncomputable def TY:List Addr:=[21,35,42,49,56,61,82,89,96,118,123,128,133,140,147,161,168,173,187,192,214,228,235,242,249,255,262,269,276,283,290,297,304,309,323,328,342,347,354,361,368,373,380,394,401,408,415,429,436,443,450,457,464,471,485,492,499,506,513,525,532,546,553,565,570,577,592,599,606,613,618,632,639,644,649,656,661,666,671,676,683,688]
noncomputable def UQ:List Addr:=[64,99,150,195,217,331,418,516,556,621]
noncomputable def LC:Addr:=442
noncomputable def Ey:Addr:=438
noncomputable def yr (k:Nat):Addr:=TY.getD k 0
noncomputable def Pp (c:Nat):Addr:=UQ.getD c 0
theorem ps {o:Option (PLift y)} (h:o.isSome=true):y:=(o.get h).down
noncomputable def Rz:(x:Option (Option eH))->Option (PLift (x=some none))
 |some none=>some ⟨rfl⟩
 |_=>none
noncomputable def TZ (a:gX):(v:eH)->Option (PLift (v= .ref a))
 | .ref b=>if e:GX b a=true then some ⟨congrArg K7 (nH e)⟩ else none
 |_=>none
noncomputable def DM:(x:Option (Option eH))->Option {v // x=some (some v)}
 |some (some v)=>some ⟨v,rfl⟩
 |_=>none
noncomputable def zX (x:Option (Option eH)):Bool:=(Rz x).isSome
variable {d9:Option (Option eH)}
theorem wk (h:zX d9=true):d9=some none:=ps h
noncomputable def T3 (a:gX) (x:Option (Option eH)):Option (PLift (x=some (some (.ref a)))):=
 (DM x).bind λv=>(TZ a v.1).map λe=>⟨v.2.trans (congrArg (some∘some) e.down)⟩
noncomputable def Ht (a:gX) (x:Option (Option eH)):Bool:=(T3 a x).isSome
theorem CF (h:Ht z d9=true):d9=some (some (.ref z)):=ps h
noncomputable def Yk (n:String):(v:eH)->Option (PLift (v= .builtin n))
 | .builtin m=>if e:m=n then some ⟨congrArg C6 e⟩ else none
 |_=>none
noncomputable def VL (n:String) (x:Option (Option eH)):Option (PLift (x=some (some (.builtin n)))):=
 (DM x).bind λv=>(Yk n v.1).map λe=>⟨v.2.trans (congrArg (some∘some) e.down)⟩
noncomputable def MD (n:String) (x:Option (Option eH)):Bool:=(VL n x).isSome
theorem Fw {n:String} (h:MD n d9=true):d9=some (some (.builtin n)):=ps h
noncomputable def Pq (x:Option (Option eH)):Bool:=(DM x).isSome
noncomputable def Yl:(x:Option Bool)->Option (PLift (x=some false))
 |some false=>some ⟨rfl⟩
 |_=>none
noncomputable def T4 (x:Option Bool):Bool:=(Yl x).isSome
theorem Pr {x:Option Bool} (h:T4 x=true):x=some false:=ps h
noncomputable def DN (K:zt) (a:gX) (C:Qp):Bool:=
 MD "object.__getattribute__" (sY K (.ref a) "__getattribute__")&&zX (sY K (.ref a) "__getattr__")&&MD "object.__setattr__" (sY K (.ref a) "__setattr__")&&
 SH K a&&SI K a&&makesIn K a&&Ht (yr C.init) (sY K (.ref a) "__init__")&&isFn K (.ref (yr C.init))&&
 ((eQ AT.length).all λx=>zX (Wn K a (AT.getD x default))&&
  (match C.meths.lookup x with
   |none=>zX (sY K (.ref a) (AT.getD x default))
   |some f=>Ht (yr f) (sY K (.ref a) (AT.getD x default))&&isFn K (.ref (yr f))&&Pq (SG K (.ref (yr f)) "__get__")&&T4 (Wm K (.ref (yr f)))))
theorem J' (g:c.fa=yr) (h:DN c.K (c.ca a) bO=true):Iz c a bO:=by
 unfold DN at h
 simp only [eV] at h
 refine iK h λd t=>?_;refine iK d λd v=>?_;refine iK d λd y=>?_;obtain ⟨⟨⟨⟨⟨o,m⟩,n⟩,q⟩,k⟩,r⟩:=d
 have j:∀(x:Nat) b,AT[x]? =some b->_:=λx b e=>by
  have u:=(ew.mp e).1
  have:=k_.mp t x (eU.mpr u)
  rw [show AT.getD x default=b by rw [d_,e];rfl,eV] at this
  exact this
 refine ⟨Fw o,wk m,Fw n,q,k,r,by rw [g];exact CF y,by rw [g];exact v,λx b e=>wk (j x b e).1,λx b e i=>?_,λx b f e i=>?_⟩
 .have:=(j x b e).2
  rw [i] at this
  exact wk this
 .have:=(j x b e).2
  rw [i] at this
  simp only [eV] at this
  refine iK this λd w=>?_;refine iK d λd s=>?_;refine iK d λl p=>?_
  rw [g]
  refine uu (CF l) p ?_ (Pr w)
  exact oJ _ ((DM _).get s).2
noncomputable def Ym:(o:Option YI)->Option {fd // ∃p,o=some p/\p.data= .func fd}
 |some ⟨a,b,.func fd,c⟩=>some ⟨fd,_,rfl,rfl⟩
 |_=>none
noncomputable def Pt (K:zt) (a:gX):Option FuncData:=(Ym (K.lookup a)).map (·.1)
theorem Pu (h:Pt aX z=some cZ):∃o,aX.lookup z=some o/\o.data= .func cZ:=
 eS (fV.mp h) λx _ e=>e▸x.2
noncomputable def Hu (K:zt) (fd:GV):Bool:=match fd.code with
 | .ref c=>(match K.lookup c with
  |some ⟨_,_,.fields vs,_⟩=>(match (vs[1]? :Option eH) with
   |some (.str q _)=>decide (q=fd.qualname)
   |_=>false)
  |_=>false)
 |_=>false
theorem J_ (X:aX.In H) (e:Hu aX cZ=true):H.CodeRec cZ.code cZ.qualname:=by
 unfold Hu at e
 generalize f:cZ.code=z at e⊢
 clear f
 induction z using p8 with
 |ref c=>
  have e:(match aX.lookup c with
   |some ⟨_,_,.fields a,_⟩=>(match (a[1]? :Option eH) with
    |some (.str q _)=>decide (q=cZ.qualname)
    |_=>false)
   |_=>false)=true:=e
  generalize b:aX.lookup c=o at e
  induction o using d7 with
  |none=>contradiction
  |some o=>
   obtain ⟨h,i,d,j⟩:=o
   induction d using Data.casesOn with
   |fields a=>
    have e:(match (a[1]? :Option eH) with
     |some (.str q _)=>decide (q=cZ.qualname)
     |_=>false)=true:=e
    generalize g:(a[1]? :Option eH)=v at e
    induction v using d7 with
    |none=>contradiction
    |some v=>induction v using p8 with
     |str q t=>exact vd c _ a t rfl (X _ _ b) rfl (of_decide_eq_true e▸g)
     |_=>contradiction
   |_=>contradiction
 |_=>contradiction
noncomputable def T5:(v:eH)->(x:AV)->Option (PLift (∀B h,RV B h v x))
 | .none,.none=>some ⟨λ_ _=>.none⟩
 | .bool b,.bool c=>if e:b=c then some ⟨λ_ _=>e▸.bool _⟩ else none
 | .int i _,.int j=>if e:i=j then some ⟨λ_ _=>e▸.int _ _⟩ else none
 | .str s _,.str l=>if e:s.cps.toList=l then some ⟨λ_ _=>e▸.str _ _⟩ else none
 |_,_=>none
noncomputable def QB:(vs:List eH)->(xs:List AV)->Option (PLift (∀B h,hU B h vs xs))
 |[],[]=>some ⟨λ_ _=>.nil⟩
 |v::vs,x::xs=>(T5 v x).bind λp=>(QB vs xs).map λq=>⟨λB h=>.cons (p.down B h) (q.down B h)⟩
 |_,_=>none
noncomputable def ME (v:eH) (x:AV):Bool:=(T5 v x).isSome
noncomputable def xu (vs:List eH) (xs:List AV):Bool:=(QB vs xs).isSome
theorem Ka (e:ME J l=true):RV c H J l:=ps e c H
theorem AK (e:xu aj j=true):hU c H aj j:=ps e c H
noncomputable def VM:(o:Option YI)->Option {items // ∃n,o=some (gr "tuple" items n)}
 |some ⟨.type T,none,.seq items n,⟨[]⟩⟩=>if e:T="tuple" then some ⟨items,n,e▸rfl⟩ else none
 |_=>none
noncomputable def xv (K:zt) (a:gX):Option (Array eH):=(VM (K.lookup a)).map (·.1)
theorem Fx (h:xv aX z=some bf):∃n,aX.lookup z=some (gr "tuple" bf n):=
 eS (fV.mp h) λx _ e=>e▸x.2
noncomputable def Pw:eH->AV
 | .bool b=>.bool b
 | .int i _=>.int i
 |_=>.none
noncomputable def Fy (K:zt) (fd:GV):List AV:=match fd.defaults with
 | .ref t=>(match xv K t with
  |some items=>items.toList.map Pw
  |none=>[])
 |_=>[]
noncomputable def MF (K:zt) (fd:GV):Bool:=match fd.defaults with
 | .none=>true
 | .ref t=>(match xv K t with
  |some items=>xu items.toList (items.toList.map Pw)
  |none=>false)
 |_=>false
noncomputable def codeOf (K:zt) (a:gX):mN:=match Pt K a with
 |some fd=>(match fd.body with
  | .stmts b=>((VK (Fy K fd) fd.scope b fd.params).map (·.1)).getD noFn
  |_=>noFn)
 |none=>noFn
noncomputable def QC:List Bool:=[false,true,true,false,false,true,true,false,false,true,true,false,false,true,false,true,true,true,true,false,true,false,true,true,true,true,true,true,true,true,true,true,true,true,true,true,true,true,false,true,true,true,true,true,true,true,true,true,true,true,true,true,true,true,true,true,true,true,true,true,true,true,true,true,true,true,true,true,false,false,false,true,true,true,true,true,true,true,true,true,true,true]
noncomputable def DO (K:zt) (bs:List Bool) (as:List gX):List mN:=
 (eQ as.length).map λk=>bif bs.getD k false then codeOf K (as.getD k 0) else noFn
noncomputable def MG (K:zt) (fd:GV):Bool:=Hu K fd&&MF K fd&&sT (Fy K fd).length fd.params.args.length&&GX fd.globals iD&&fd.closure.isEmpty&&GX fd.builtins j0&&
 (!BN fd.scope.names||match fd.code with
  | .ref c=>GX c LC&&decide (fd.qualname=⟨⟨[116,97,98,108,101,95,111,102]⟩⟩)
  |_=>false)
noncomputable def MH (K:zt) (bs:List Bool) (as:List gX):Bool:=
 (eQ as.length).all λk=>!bs.getD k false||(Pt K (as.getD k 0)).elim false (MG K)
noncomputable def T6 (K:zt):Array DictEntry:=match K.lookup iD with
 |some ⟨_,_,.dict es _,_⟩=>es
 |_=>#[]
noncomputable def T7:(v w:eH)->Option (PLift (v=w))
 | .builtin a,.builtin b=>if e:a=b then some ⟨congrArg C6 e⟩ else none
 | .type a,.type b=>if e:a=b then some ⟨congrArg wM e⟩ else none
 |_,_=>none
noncomputable def MI (v w:eH):Bool:=(T7 v w).isSome
theorem MJ (h:MI J aT=true):J=aT:=ps h
noncomputable def Hv (a:gX) (v:eH):Bool:=(TZ a v).isSome
theorem CG (h:Hv z J=true):J= .ref z:=ps h
noncomputable def T8 (K:zt) (val:eH):AV->Bool
 | .fn k=>Hv (yr k) val
 | .cls c=>Hv (Pp c) val
 | .tup xs=>(match val with
  | .ref t=>(match xv K t with
   |some items=>sT items.size fE&&xu items.toList xs
   |none=>false)
  |_=>false)
 |v=>ME val v
noncomputable def IQ (K:zt) (es:Array pR) (p:j7×AV):Bool:=match YD es p.1 with
 |some val=>T8 K val p.2
 |none=>!decide (p.1=("__name__":j7))&&(match p.2,K4 p.1 with
  | .bi n,some w=>MI w (Ap n)
  |_,_=>false)
noncomputable def IS (K:zt) (as:List gX) (Cs:List Qp):Bool:=
 (eQ as.length).all λc=>(Cs[c]?).elim false (DN K (as.getD c 0))
structure Sq (K:zt):Prop where
 cls:IS K UQ Wb=true
 fns:MH K QC TY=true
 codes:DO K QC TY=Wa
 IA:(TY.all λa=>U3 K (.ref a))=true
 IB:(UQ.all λa=>U3 K (.ref a))=true
 IC:(GG.all λp=>IQ K (T6 K) p)=true
 glob:(K.lookup iD).isSome=true
 hd:codeHdIn K LC Ey=true
 T9:(K.lookup Ey).isNone=true
 Yn:(match YD (T6 K) ⟨⟨[108,97,119]⟩⟩ with |some (.ref a)=>GX a 688 |_=>false)=true
noncomputable def IT:Str:=⟨⟨[116,97,98,108,101,95,111,102,46,60,108,111,99,97,108,115,62,46]⟩⟩
noncomputable def baseOf (prog:GB) (w:Yv) (h:vX) (K:zt) (mg mb:j7->Option eH) (os:Wr):Base:=
 {prog:=prog,w:=w,h₀:=K6 h [Ey],K:=K,fa:=yr,ca:=Pp,mg:=mg,mb:=mb,os:=os,tab:=Ey,lc:=LC,EW:=IT,Hb:=IT++("<lambda>":j7)}
theorem Px:PG.fns.length=82:=by kernel_rfl
theorem MK:PG.Dn.length=10:=by kernel_rfl
theorem QD {o:Option h} (a:o.elim false e9=true):∃x,o=some x/\e9 x=true:=by
 cases o with
 |none=>contradiction
 |some x=>exact ⟨x,rfl,a⟩
theorem Py {a:List gX} {b:List Qp} (h:IS aX a b=true) (c:Nat) (d:c<a.length):∃C,b[c]? =some C/\DN aX (a.getD c 0) C=true:=
 QD (k_.mp h c (eU.mpr d))
theorem RA {g:List Bool} {d:List gX} {l:List mN} (h:MH aX g d=true) (p:DO aX g d=l) (k:Nat) (F:mN) (c:l[k]? =some F):
 F=noFn\/∃f,Pt aX (d.getD k 0)=some f/\MG aX f=true/\F=codeOf aX (d.getD k 0):=by
 rw [<-p] at c
 unfold DO at c
 rw [ed] at c
 refine eS (fV.mp c) λj i e=>?_
 have o:k<d.length:=fA (ew.mp i).1 fc
 obtain rfl:=d3 ((ju o).symm.trans i)
 have m:=k_.mp h k (eU.mpr o)
 clear h c i
 cases n:g.getD k false with
 |false=>rw [n] at e;exact .inl e.symm
 |true=>
  rw [n] at e m
  exact .inr (eS (QD m) λf a b=>⟨f,a,b,e.symm⟩)
theorem MN:∀{l:List (j7×h)},h_ l ao=some dp->(ao,dp)∈l:=by
 intro d
 induction d with
 |nil=>
  intro a
  contradiction
 |cons c r b=>
  intro a
  obtain ⟨y,w⟩:=c
  rw [tf] at a
  by_cases e:ao=y
  .rw [if_pos e] at a;clear b;subst e;obtain rfl:=d3 a;exact .head _
  .rw [if_neg e] at a;exact .tail _ (b a)
theorem Pz:(⟨⟨[116,97,98,108,101,95,111,102]⟩⟩:j7)++(".<locals>.":j7)=IT:=by unfold IT;decide+kernel
theorem Fz (e:H.get? z=some cf) (a:z≠Ey):(K6 H [Ey]).get? z=some cf:=hideAll_get _ e λq=>a (dk.mp q)
theorem UR (x:H.Ns z bu) (c:z≠Ey):(K6 H [Ey]).Ns z bu:=yb x λo b a e r=>⟨o,b,a,(Fz e c),r⟩
theorem PA (X:aX.In H) (b:Sq aX):aX.In (K6 H [Ey]):=λa o e=>Fz (X a o e) λq=>by
 have:=b.T9
 rw [q] at e;rw [e] at this;contradiction
variable {cJ:WRecords} {cK:(j7->Option eH)->vX->Prop} {bR:j7->Option eH}
theorem QE (G:U4 bo bB cJ cK bp m bu bR H) (X:aX.In H) (g:Sq aX) (x:j7):YD (T6 aX) x=bu x:=by
 refine mW G.T.g λo f j e b _ h=>?_
 refine j_ (Option.isSome_iff_exists.mp g.glob) λn a=>?_
 have:=X _ _ a
 rw [e] at this;(injection this with this;subst this)
 have k:T6 aX=f:=by
  unfold T6
  rw [a]
  clear G X g e h a;obtain ⟨c,d,i,l⟩:=o
  have b:i= .dict f j:=b
  subst b
  rfl
 rw [k];exact h x
variable {cL:Wr}
set_option tactic.hygienic true in
theorem PB {q:GB} (G:U4 q bB cJ cK bp m bu bR H) (z:YA q=true) (X:aX.In H) (f:Sq aX):gU (baseOf bo bp H aX bu bR cL) where
 Wd:=PA X f
 g:=UR G.T.g (by decide)
 b:=UR G.T.b (by decide)
 nolimit:=let ⟨j,a,b⟩:=G.T.nolimit;(ei j (UR a (by decide)) b)
 nodigits:=let ⟨j,a,b⟩:=G.T.nodigits;(ei j (UR a (by decide)) b)
 Tu:=let ⟨_,⟨o,_,_,e,_⟩,_⟩:=(G.T.seer z).mods;(oJ o (Fz e (by decide)))
 cls c d:=by
  obtain ⟨C,D,p⟩:=Py f.cls c d
  exact ei C D (J' (c:=baseOf bo bp H aX bu bR cL) rfl p)
 IA k h:=by
  refine k_.mp f.IA (yr k) ?_
  unfold yr
  rw [d_,df (show k<TY.length from h)]
  exact fN _
 IB k h:=by
  refine k_.mp f.IB (Pp k) ?_
  unfold Pp
  rw [d_,df (show k<UQ.length from h)]
  exact fN _
 Tw:=Px
 LI:=MK
 IC x v y:=by
  have d:=k_.mp f.IC _ (MN y)
  unfold IQ at d
  dsimp only at d
  rw [QE G X f] at d
  have I:=PA X f
  generalize s:bu x=o at d
  induction o using d7 with
  |some r=>
   refine ei r (.inl s) ?_
   induction v using AV.casesOn with
   |fn k=>rw [CG d];exact .fn (B:=baseOf bo bp H aX bu bR cL) _
   |cls k=>rw [CG d];exact .cls (B:=baseOf bo bp H aX bu bR cL) _
   |tup F=>
    induction r using p8 with
    |ref t=>
     have d:(match xv aX t with
      |some l=>sT l.size fE&&xu l.toList F
      |none=>false)=true:=d
     generalize w:xv aX t=o at d
     induction o using d7 with
     |none=>contradiction
     |some l=>
      refine j_ (Fx w) λn h=>?_
      have d:=(eV _ _).mp d
      exact .tup (I _ _ h) (ja d.1) (AK d.2)
    |_=>contradiction
   |_=>exact Ka d
  |none=>
   have d:=(eV _ _).mp d
   have p:¬x=("__name__":j7):=of_decide_eq_false ((fK _).mp d.1)
   have i:=d.2
   clear d
   induction v using AV.casesOn with
   |bi n=>
    have i:(match (AV.bi n),K4 x with
     | .bi n,some bp=>MI bp (Ap n)
     |_,_=>false)=true:=i
    generalize E:K4 x=o at i
    induction o using d7 with
    |none=>contradiction
    |some u=>
     have A:bR x=some u:=(G.T.builtins x p).trans E
     refine ei u (.inr ⟨s,A⟩) ?_
     rw [MJ i]
     exact .bi (B:=baseOf bo bp H aX bu bR cL) n
   |_=>contradiction
set_option tactic.hygienic true in
theorem PC (X:aX.In H) (h:Sq aX):AG Qz (baseOf bo bp H aX bu bR cL):=λk F s=>by
 rcases RA h.fns h.codes k F s with y |⟨d,r,j,a⟩
 .exact .inl y
 .have l:=PA X h
  clear X h s;refine eS (Pu r) λo w J=>?_
  unfold codeOf at a
  rw [r] at a
  dsimp only at a
  unfold MG at j
  simp only [eV,p_] at j
  refine iK j λD e=>?_;obtain ⟨⟨⟨⟨⟨E,g⟩,L⟩,x⟩,G⟩,K⟩:=D
  generalize I:d.body=M at a
  induction M using FuncBody.casesOn with
  |stmts b=>
   have a:F=((VK (Fy aX d) d.scope b d.params).map (·.1)).getD noFn:=a
   induction p:VK (Fy aX d) d.scope b d.params using d7 with
   |none=>rw [p] at a;exact .inl a
   |some q=>
    rw [p] at a
    have a:F=q.1:=a
    subst a
    refine Cb q.2 λu B v C=>?_
    refine .inr ⟨⟨d.params,b,d.scope⟩,B,v,C,⟨o,d,(l _ _ w),J,rfl,I,rfl,(nH x),G,(nH K),(J_ l E),?_,(λi=>?_)⟩,by rw [u];exact ja L⟩
    .rw [u]
     unfold MF at g
     unfold Fy
     generalize d.defaults=z at g⊢
     induction z using p8 with
     |none=>exact .inl ⟨rfl,rfl⟩
     |ref t=>
      have g:(match xv aX t with
       |some f=>xu f.toList (f.toList.map Pw)
       |none=>false)=true:=g
      generalize m:xv aX t=o at g
      induction o using d7 with
      |none=>contradiction
      |some f=>
       refine j_ (Fx m) λn A=>?_
       refine .inr ⟨t,f,n,rfl,(l _ _ A),?_⟩
       show hU _ _ f.toList (match xv aX t with
        |some f=>f.toList.map Pw
        |none=>[])
       rw [m]
       exact AK g
     |_=>contradiction
    .have i:BN d.scope.names=true:=i
     rw [i] at e
     simp only [wQ,Q2] at e
     have:=e
     generalize d.code=z at e⊢
     induction z using p8 with
     |ref c=>
      have e:=(eV _ _).mp e
      rw [nH e.1,of_decide_eq_true e.2]
      exact ⟨rfl,Pz⟩
     |_=>contradiction
  |_=>exact .inl a
theorem MO {q:GB} (G:U4 q bB cJ cK bp m bu bR H) (p:H.get? Ey=some (K5 #[])) (X:aX.In H) (f:Sq aX):xt (baseOf bo bp H aX bu bR cL) where
 hd:=Yw (PA X f) f.hd
 bt:=by
  refine iP G.T.bmain λb l r k a h i d=>?_
  have c:b≠Ey:=λe=>by
   rw [e,p] at a;(injection a with a;subst a);contradiction
  have n:b≠mainGlobals:=λe=>by
   refine wX G.T.g λo s t j g _=>?_
   rw [e,j] at a;(injection a with a;subst a);rw [g] at d;contradiction
  exact ⟨b,l,r,k,n,c,(Fz a c),h,i,d⟩
 gt:=by show iD≠Ey;decide
 Hb:=rfl
theorem PD (k:H.get? Ey=some (K5 #[])) (h:m.heap=H) (i:m.gens=#[]) (f:m.os=cL):R (baseOf bo bp H aX bu bR cL) (λ_=>none) m:=by
 subst h
 have j:∀b,ic (baseOf bo bp m.heap aX bu bR cL) (λ_=>none) b->b=Ey:=λb d=>by
  rcases d with d |⟨a,c,g,e⟩ |d
  .exact absurd rfl d
  .contradiction
  .exact d
 refine ⟨λa o e=>(by contradiction),λb o e=>of_hideAll _ e,λb d=>?_,λa c l g e=>(by contradiction),rfl,(gq (#[]) k trivial (λp n e=>(by contradiction))),i,f⟩
 rw [j b d]
 exact hideAll_none _ (.head _)
noncomputable def Core:Prop:=∀ns:List Int,ns.length<=63->eE PG 50 (.fn 81) [.BM ns] (λ_=>none) λv _=>v= .bool true
theorem Kb {a:List WData}:fT.row.toRowW.claim.post a (WData.bool true) a=true:=by
 show fT.row.toRowW.claim.post a (.bool true) a=true
 first
  |kernel_rfl
  |exact postW_of (by wrow_shape) (by wtm_val) (by w_fin)
theorem T' {C:j7->Option gX} {A:ExcName->Option eH} {u:List WData} (T:Core) (G:U4 bo bB cJ cK bp m bu bR ae.heap) (I:YA bo=true) (X:aX.In ae.heap) (i:ae.heap.get? Ey=some (K5 #[])) (g:Sq aX) (M:ae.gens=#[]) (p:bu ⟨⟨[108,97,119]⟩⟩=some (.ref z)) (s:ae.heap.IsList aV aj.toArray) (q:GC aj a8) (t:¬((63:Int)<(a8.length:Int))):
 f_ (hJ fT.row.prog bp) callerA (nB (.ref z) [.ref aV] []) (λv j=>GoodWG fT.row.toRowW.claim C A u ae (.ok (.ret v)) j)
  (λe j=>GoodWG fT.row.toRowW.claim C A u ae (.error e) j) ae:=by
 have P:z=yr 81:=by
  have B:=g.Yn
  rw [QE G X g,p] at B
  exact nH B
 clear p;subst P
 have Q:=PB (bo:=fT.row.prog) (bp:=bp) (cL:=ae.os) G I X g
 have J:=PC (bo:=fT.row.prog) (bp:=bp) (bu:=bu) (bR:=bR) (cL:=ae.os) X g
 have O:=MO (bo:=fT.row.prog) (bp:=bp) (cL:=ae.os) G i X g
 have r:=PD (bo:=fT.row.prog) (bp:=bp) (bu:=bu) (bR:=bR) (aX:=aX) i rfl M (rfl:ae.os=ae.os)
 have S:=q.length
 have D:aV≠Ey:=λe=>by
  refine gi s λo d W _=>?_
  rw [e,i] at d;(injection d with d;subst d);contradiction
 have R:(K6 ae.heap [Ey]).IsList aV aj.toArray:=eS s λo d x=>(ei o (Fz d D) x)
 have H:RV (baseOf fT.row.prog bp ae.heap aX bu bR ae.os) ae.heap (.ref aV) (.BM a8):=.BM R (by simpa using q) (by rw [j4];unfold fE;exact n1 S (a_ (mM λh=>t (h9.mpr h)) (by decide:63<=100000)))
 refine el (Ry Q J O 50 (.fn 81) [.BM a8] _ _ callerA (.ref (yr 81)) [.ref aV] ae (T a8 (by exact mM λh=>t (h9.mpr h))) ⟨by decide,by decide,rfl⟩ r (.fn 81) (.cons H .nil)) ?_ λ_ _ e=>e.elim
 intro v j L;obtain ⟨x,V,F,l,y,rfl⟩:=L
 obtain rfl:=xc F
 refine uu (.inl ⟨.bool true,.bool true,[],rfl,λ_=>rfl,.bool true,Kb,λ_=>⟨eI,(by intros;contradiction)⟩⟩) ⟨λb o e=>?_,λb o e=>?_⟩ l.os (.of_eq l.gens)
 all_goals
  by_cases k:b=Ey
 .subst k
  refine eS l.tab λps n _=>?_
  rw [i] at e;(injection e with e;subst e)
  have U:=Yw X g.hd
  exact .inr (.inl (rI (U.tab i).isCodeTable rfl (#[]) ps rfl (by rw [Array.empty_append];exact n)))
 .refine .inl (y.keep b o e λf=>?_)
  rcases f with f |⟨a,c,E,N⟩ |f
  .exact f rfl
  .contradiction
  .exact k f
 .subst k
  refine eS l.tab λps n _=>?_
  exact oJ _ n
 .refine oJ o (y.keep b o e λf=>?_)
  rcases f with f |⟨a,c,E,N⟩ |f
  .exact f rfl
  .contradiction
  .exact k f
variable {de:mN}
theorem gO (m:MM) (f:2<=a) (k:PG.fns[d]? =some de) (i:bindArgs de j=some m) (h:jo PG (eE PG a) de.body m b λe _ g=>∃c,eD c g/\n (y8 e) c):eE PG (a+1) (.fn d) j b n:=
 (nW f de m k i h)
theorem call_cls (f:PG.Dn[d]? =some bO) (h:∀c e,b.free c->b.free e->c≠e->eE PG a (.fn bO.init) (.ref c::j) (b.set c (.inst d e [])) λv g=>v= .none/\n (.ref c) g):
 eE PG (a+1) (.cls d) j b n:=ei bO f h
theorem jI (h:Il d j b n):eE PG (a+1) (.bi d) j b n:=h
theorem Kc (I:List a9->h->t->Prop) (l:a9->(h->t->Prop)->h->t->Prop) (n:h->t->Prop):
 ∀(g done:List a9) (m:h) (a:t),I done m a->
  (∀d x r m a,done++g=d++x::r->I d m a->∀k:h->t->Prop,(∀c b,I (d++[x]) c b->k c b)->l x k m a)->
  (∀m a,I (done++g) m a->n m a)->g.foldr l n m a:=by
 intro u
 induction u with
 |nil=>
  intro done m a i _ f
  simpa using f m a (by simpa using i)
 |cons x r o=>
  intro done m a i j f
  refine j done x r m a rfl i _ λc b q=>?_
  refine o (done++[x]) c b q (λd y s m a e=>j d y s m a (by simpa using e)) λm a p=>f m a (by simpa using p)
theorem vj (I:List a9->h->t->Prop) {b:a9->(h->t->Prop)->h->t->Prop} {a:List a9} (l:I [] dp dW) (j:∀d x r dp dW,a=d++x::r->I d dp dW->∀k:h->t->Prop,(∀f c,I (d++[x]) f c->k f c)->b x k dp dW) (i:∀dp dW,I a dp dW->dn dp dW):a.foldr b dn dp dW:=
 Kc I b dn a [] dp dW l (λd x r dp dW e=>j d x r dp dW (by simpa using e)) (λdp dW g=>i dp dW (by simpa using g))
theorem CH {e:(h->t->Prop)->h->t->Prop} (I:Nat->h->t->Prop) (f:I a dp dW) (m:∀a dp dW,I a dp dW->∀k:h->t->Prop,(∀c d b,c<a->I c d b->k d b)->e k dp dW):
 ∃n:Nat,N3 (motive:=λ_=>h->t->Prop) (λ_ _=>False) (λ_ k=>e k) n dp dW:=by
 have o:∀n a dp dW,a<n->I a dp dW->N3 (motive:=λ_=>h->t->Prop) (λ_ _=>False) (λ_ k=>e k) n dp dW:=by
  intro n
  induction n with
  |zero=>intro a dp dW f;exact absurd f (o9 _)
  |succ n g=>intro a dp dW p j;exact m a dp dW j _ λc d b i l=>g c d b (by exact eh i (eX p)) l
 exact ⟨a+1,o _ a dp dW (fG _) f⟩
noncomputable def tI (w:List Int):AV:=.tup (w.map .int)
theorem yt (n:Nat) (w:List Int):jk (n+1) (tI w):=.tup _ _ λx a=>by
 refine iQ x (ck.mp a) λi _=>?_;exact .int _ i
theorem xw (w:List Int):Plain (tI w):=yt 5 w
theorem wm (w:List Int):∀x∈w.map AV.int,Plain x:=λx a=>by
 refine iQ x (ck.mp a) λi _=>?_;exact .int _ i
variable {cp:List Int}
theorem IU (h:a8.map AV.int=cp.map AV.int):a8=cp:=by
 induction a8 generalizing cp with
 |nil=>exact (jt.mp h.symm).symm
 |cons x a8 a=>
  induction cp using ej with
  |nil=>contradiction
  |cons y cp=>
   refine iK (fo h) λc b=>?_
   rw [AV.int.inj c,a b]
theorem Hw (h:tI a8=tI cp):a8=cp:=IU (AV.tup.inj h)
theorem MP:Eqv b (tI a8) (tI cp) (decide (a8=cp)):=.plain (xw a8) (xw cp) _ (decide_eq_true_iff.trans ⟨λh=>congrArg tI h,Hw⟩)
noncomputable def RB:List (Nat×CE)->w'
 |[]=>.nil
 |(x,e)::r=>.cons (.iA (.var 0) x e) (RB r)
noncomputable def RC (m:MM):CE->Option AV
 | .var i=>(m[i]?).join
 | .cst v=>some v
 |_=>none
noncomputable def PF:List (Nat×CE)->List AV->List (Nat×AV)->List (Nat×AV)
 |(x,_)::r,v::vs,fs=>PF r vs (iy fs x v)
 |_,_,fs=>fs
theorem PH (h:RC e g=some l) (c:n l b):VE PG i g e b n:=by
 induction g using CE.casesOn with
 |var a=>
  have h:(e[a]?).join=some l:=h
  refine ei l ?_ c
  induction g:e[a]? using d7 with
  |none=>rw [g] at h;contradiction
  |some w=>rw [g] at h;exact congrArg some h
 |cst w=>(injection h with h;subst h);exact c
 |_=>contradiction
theorem T_ (n:e[0]? =some (some (.ref a))) {l:List (Nat×CE)} (c:b a=some (.inst d o aS)) (m:l.map (λp=>RC e p.2)=j.map some) (h:ag .next e (b.set a (.inst d o (PF l j aS)))):jo PG i (RB l) e b ag:=by
 induction l generalizing j aS b with
 |nil=>
  induction j using ej with
  |nil=>rwa [show b.set a (.inst d o (PF [] [] aS))=b from AS.set_same c] at h
  |cons v j=>contradiction
 |cons p l f=>
  induction j using ej with
  |nil=>contradiction
  |cons v j=>
   refine iK (fo m) λk g=>?_
   exact PH k (ei _ n (.mk c (f (gW _ _ _) g (by rw [Oe];exact h))))
theorem yu {l:List (Nat×CE)} (g:4<=a) (r:PG.Dn[d]? =some bO) (u:PG.fns[bO.init]? =some de) (t:∀c,bindArgs de (.ref c::j)=some (some (.ref c)::e)) (o:de.body=RB l) (m:∀c:Nat,l.map (λp=>RC (some (.ref c)::e) p.2)=aN.map some) (h:∀c f,b.free c->b.free f->c≠f->n (.ref c) (b.set c (.inst d f (PF l aN [])))):eE PG a (.cls d) j b n:=by
 obtain ⟨a,rfl⟩:∃k,a=k+2:=oJ (a -2) (by exact UL g)
 refine call_cls r λc f q s i=>gO _ (by exact WK g) u (t c) ?_
 rw [o]
 refine T_ rfl (gW _ _ _) (m c) (gq _ (ec _) rfl ?_)
 rw [Oe]
 exact h c f q s i
theorem tq (e:4<=a) (h:∀c d,b.free c->b.free d->c≠d->n (.ref c) (b.set c (.inst 0 d [(33,l)]))):eE PG a (.cls 0) [l] b n:=
 yu (aN:=[l]) (l:=[(33,.var 1)]) (e:=[some l]) e rfl rfl (λ_=>rfl) rfl (λ_=>rfl) h
theorem tr (e:4<=a) (h:∀c d,b.free c->b.free d->c≠d->n (.ref c) (b.set c (.inst 5 d [(54,l)]))):eE PG a (.cls 5) [l] b n:=
 yu (aN:=[l]) (l:=[(54,.var 1)]) (e:=[some l]) e rfl rfl (λ_=>rfl) rfl (λ_=>rfl) h
theorem AL (e:4<=a) (h:∀c d,b.free c->b.free d->c≠d->n (.ref c) (b.set c (.inst 8 d [(33,l),(58,af),(55,b7)]))):eE PG a (.cls 8) [l,af,b7] b n:=
 yu (aN:=[l,af,b7]) (l:=[(33,.var 1),(58,.var 2),(55,.var 3)]) (e:=[some l,some af,some b7]) e rfl rfl (λ_=>rfl) rfl (λ_=>rfl) h
theorem Hx (e:4<=a) {x:AV} (h:∀c d,b.free c->b.free d->c≠d->n (.ref c) (b.set c (.inst 3 d [(37,l),(47,af),(48,b7),(49,x)]))):eE PG a (.cls 3) [l,af,b7,x] b n:=
 yu (aN:=[l,af,b7,x]) (l:=[(37,.var 1),(47,.var 2),(48,.var 3),(49,.var 4)]) (e:=[some l,some af,some b7,some x]) e rfl rfl (λ_=>rfl) rfl (λ_=>rfl) h
noncomputable def MQ (g c m:AV):List (Nat×AV):=[(34,.int 0),(29,g),(35,c),(36,m),(31,.bool false),(24,.int 0),(25,.int 0),(26,.int 0),(30,.int 0),(37,.str []),(38,.int 0),(39,.int 0),(40,.int 0),(41,.int 0),(42,.int 0),(43,.str [])]
theorem MR (e:4<=a) (h:∀c d,b.free c->b.free d->c≠d->n (.ref c) (b.set c (.inst 1 d (MQ l af (.int 0))))):eE PG a (.cls 1) [.int 0,l,af] b n:=
 yu (aN:=[.int 0,l,af,.int 0,.bool false,.int 0,.int 0,.int 0,.int 0,.str [],.int 0,.int 0,.int 0,.int 0,.int 0,.str []])
  (l:=[(34,.var 1),(29,.var 2),(35,.var 3),(36,.cst (.int 0)),(31,.cst (.bool false)),(24,.cst (.int 0)),(25,.cst (.int 0)),(26,.cst (.int 0)),(30,.cst (.int 0)),(37,.cst (.str [])),(38,.cst (.int 0)),(39,.cst (.int 0)),(40,.cst (.int 0)),(41,.cst (.int 0)),(42,.cst (.int 0)),(43,.cst (.str []))])
  (e:=[some (.int 0),some l,some af]) e rfl rfl (λ_=>rfl) rfl (λ_=>rfl) h
theorem Hy (e:4<=a) (h:∀c d,b.free c->b.free d->c≠d->n (.ref c) (b.set c (.inst 2 d [(28,l),(44,.bool false),(45,.int 0),(46,.int 0)]))):eE PG a (.cls 2) [l] b n:=
 yu (aN:=[l,.bool false,.int 0,.int 0]) (l:=[(28,.var 1),(44,.var 2),(45,.cst (.int 0)),(46,.cst (.int 0))]) (e:=[some l,some (.bool false)]) e rfl rfl (λ_=>rfl) rfl (λ_=>rfl) h
noncomputable def Ev (X:Ak) (m:MM) (st:AS) (e:CE) (v:AV):Prop:=∀Q:AV->AS->Prop,Q v st->VE PG X e m st Q
noncomputable def IV (X:Ak) (m:MM) (st:AS) (es:w0) (vs:List AV):Prop:=∀Q:List AV->AS->Prop,Q vs st->Io PG X es m st Q
noncomputable def Tv (X:Ak) (m:MM) (st:AS) (e:CE) (b:Bool):Prop:=∀Q:Bool->AS->Prop,Q b st->VT PG X e (VE PG X e) m st Q
theorem a5 (h:e[a]? =some (some l)):Ev i e b (.var a) l:=λQ c=>ei l h c
theorem dt:Ev i e b (.cst l) l:=λQ a=>a
theorem gP:IV i e b .nil []:=λQ a=>a
theorem oE (h:Ev i e b g l) (c:IV i e b ar j):IV i e b (.cons g ar) (l::j):=λQ a=>h _ (c _ a)
theorem iJ (h:Ev i e b g l):IV i e b (.cons g .nil) [l]:=oE h gP
theorem iL (h:Ev i e b g l) (a:Ev i e b D af):IV i e b (.cons g (.cons D .nil)) [l,af]:=oE h (iJ a)
theorem vE (h:Ev i e b g l) (a:Ev i e b D af) (c:Ev i e b aL b7):IV i e b (.cons g (.cons D (.cons aL .nil))) [l,af,b7]:=oE h (iL a c)
theorem g5 (h:IV i e b ar j):Ev i e b (.tup ar) (.tup j):=λQ a=>h _ a
theorem eO (h:Ev i e b g (.ref d)) (j:b d=some (.inst o I aS)) (c:aS.lookup a=some l):Ev i e b (.attr g a) l:=λQ f=>h _ (.mk j c f)
theorem DP (h:Ev i e b g l) (a:Ev i e b D af) (d:∀Q:AV->AS->Prop,Q b7 b->zD b Q l af):Ev i e b (.sub g D) b7:=λQ c=>h _ (a _ (d _ c))
theorem AM (b:j[a]? =some l):itemAt j (a:Int)=some l:=(if_pos (gC a)).trans b
theorem CI (f:b a=some (.list j)) (c:j[d]? =some l) (e:n l b):zD b n (.ref a) (.int d):=.list f (AM c) e
theorem FA (c:j[a]? =some l) (d:n l b):zD b n (.tup j) (.int a):=.tup (AM c) d
theorem Kd (e:b a=some (.dict aC)) (f:tc l aC) (c:(l,af)∈aC) (d:n af b):zD b n (.ref a) l:=.dict e f c d
theorem fq (h:Ev i e b g (.ref a)) (m:b a=some (.list j)) (c:Ev i e b D (.int d)) (f:j[d]? =some l):Ev i e b (.sub g D) l:=DP h c λ_ k=>CI m f k
theorem pk (h:Ev i e b g (.tup j)) (c:Ev i e b D (.int a)) (d:j[a]? =some l):Ev i e b (.sub g D) l:=DP h c λ_ f=>FA d f
theorem sd (h:Ev i e b g (.ref a)) (j:b a=some (.dict aC)) (c:Ev i e b D l) (k:tc l aC) (d:(l,af)∈aC):Ev i e b (.sub g D) af:=DP h c λ_ f=>Kd j k d f
theorem ia (h:Ev i e b g (.int p)) (a:Ev i e b D (.int aB)) (d:binI bM p aB=some bZ):Ev i e b (.bin bM g D) (.int bZ):=λQ c=>h _ (a _ (.int d c))
theorem AN (h:Ev i e b g (.tup j)) (a:Ev i e b D (.tup aN)) (d:j.length+aN.length<=fE):Ev i e b (.bin .add g D) (.tup (j++aN)):=λQ c=>h _ (a _ (.cat d c))
theorem wo (h:Ev i e b g (.int p)):Ev i e b (.neg g) (.int (-p)):=λQ a=>h _ (.mk a)
variable {bI:Og}
theorem fU (h:Ev i e b g l) (a:Ev i e b D af) (d:∀Q:Bool->Prop,Q aw->pV b Q bI l af):Ev i e b (.cmp g bI D) (.bool aw):=λQ c=>h _ (a _ (d (λaw=>Q (.bool aw) b) c))
theorem eq_int (a:aw=decide (p=aB)) (Q:Bool->Prop) (c:Q aw):pV b Q .eq (.int p) (.int aB):=.eq (.plain (.int _ p) (.int _ aB) aw (by rw [a,decide_eq_true_iff];exact ⟨λh=>by rw [h],λh=>AV.int.inj h⟩)) c
theorem ne_int (a:aw= !decide (p=aB)) (Q:Bool->Prop) (c:Q aw):pV b Q .ne (.int p) (.int aB):=.ne (.plain (.int _ p) (.int _ aB) (decide (p=aB)) (by rw [decide_eq_true_iff];exact ⟨λh=>by rw [h],λh=>AV.int.inj h⟩)) (a▸c)
theorem n0 (a:aw=decide (p<aB)) (Q:Bool->Prop) (c:Q aw):pV b Q .lt (.int p) (.int aB):=.ord (congrArg some a.symm) c
theorem f9 (h:Ev i e b (.cmp g bI D) (.bool aw)):Tv i e b (.cmp g bI D) aw:=λQ a=>h _ (ei _ (.bool _) a)
theorem yv (h:Tv i e b g aw) (c:aw=true->Tv i e b D bN):Tv i e b (.and g D) (aw&&bN):=λQ a=>h _ (by
 clear h;induction aw with
 |true=>exact c rfl _ a
 |false=>exact a)
theorem MS (h:Tv i e b g aw) (c:aw=false->Tv i e b D bN):Tv i e b (.or g D) (aw||bN):=λQ a=>h _ (by
 clear h;induction aw with
 |false=>exact c rfl _ a
 |true=>exact a)
theorem RF (h:e[a]? =some (some (.ref d))) (f:b d=some (.list j)):Tv i e b (.var a) (!j.isEmpty):=λQ c=>Dg _ h _ (.list f) c
theorem xx (a:Ev i e b g l) (d:IV i e b ar j) (h:∀Q:AV->AS->Prop,Q af b->i l j b Q):Ev i e b (.call g ar) af:=λQ c=>a _ (d _ (h _ c))
theorem g6 (a:Ev i e b g l) (c:IV i e b ar j) (h:i l j b n):VE PG i (.call g ar) e b n:=a _ (c _ h)
theorem jr (c:Ev i e b g (.ref d)) (k:b d=some (.inst o I aS)) (f:aS.lookup a=none) (l:PG.Dn[o]? =some bO) (m:bO.meths.lookup a=some ak) (p:IV i e b ar j) (h:i (.fn ak) (.ref d::j) b n):VE PG i (.fL g a ar) e b n:=c _ (.inst k f l m (p _ h))
theorem IW (f:Ev i e b g (.ref d)) (c:b d=some (.list j)) (k:a=0\/a=3) (l:IV i e b ar aN) (h:y6 d j b n a aN):VE PG i (.fL g a ar) e b n:=f _ (.list c k (l _ (ei _ c h)))
theorem DQ (c:Ev i e b g (.ref d)) (k:b d=some (.dict aC)) (f:a=1\/a=2) (h:Io PG i ar e b λj b=>∃aC,b d=some (.dict aC)/\y7 d aC b n a j):VE PG i (.fL g a ar) e b n:=c _ (.dict k f h)
theorem jd (h:Ev (eE PG (a+1)) e b g l) (c:∀Q:List AV->Prop,Q j->pg b Q l):Ev (eE PG (a+1)) e b (.call (.cst (.bi 0)) (.cons g .nil)) (.int j.length):=λQ d=>h _ (.mk (c _ λ_=>d))
theorem f7 (d:b a=some (.list j)) (Q:List AV->Prop) (c:Q j):pg b Q (.ref a):=.list d c
theorem q8 (e:b a=some (.dict aC)) (c:IntKeys aC) (Q:List AV->Prop) (d:Q (aC.map (·.1))):pg b Q (.ref a):=.dict e c d
theorem gH (d:b a=some (.list j)) (c:bH (.list a j) j):oh b bH (.ref a):=.list d c
theorem vk (e:b a=some (.dict aC)) (c:IntKeys aC) (d:bH (.dict a (aC.map (·.1))) (aC.map (·.1))):oh b bH (.ref a):=.dict e c d
noncomputable abbrev Nx (X:Ak) (r:w') (Q:Fl->MM->AS->Prop):Fl->MM->AS->Prop:=λfl m st=>match fl with | .next=>jo PG X r m st Q |fl=>Q fl m st
theorem g8 (c:Ev i e b g l) (h:jo PG i ah (e.set a (some l)) b ag):jo PG i (.cons (.asg a g) ah) e b ag:=c _ h
theorem iM (a:Ev i e b g l) (h:ag (.ret l) e b):jo PG i (.cons (.ret g) ah) e b ag:=a _ h
theorem QF (h:ag .brk e b):jo PG i (.cons .brk ah) e b ag:=h
theorem ki {a:w'} (c:Tv i e b g aw) (f:aw=true->jo PG i bg e b (Nx i ah ag)) (d:aw=false->jo PG i a e b (Nx i ah ag)):jo PG i (.cons (.iff g bg a) ah) e b ag:=c _ (by
 clear c;induction aw with
 |true=>exact f rfl
 |false=>exact d rfl)
noncomputable abbrev g9:=List Int
noncomputable abbrev Row:=g9×Int
structure Au where
 steps:List (List (Int×Nat))
 ends:List Int
noncomputable def dV (s:List (Int×Nat)):List (AV×AV):=s.map λp=>(.int p.1,.int p.2)
noncomputable def ie (r:Row):AV:=.tup [tI r.1,.int r.2]
inductive ke (st:AS):List Nat->List (List (Int×Nat))->Prop where
 |nil:ke st [] []
 |cons {d:Nat} {s:List (Int×Nat)} {ds:List Nat} {ss:List (List (Int×Nat))} (h:st d=some (.dict (dV s))) (r:ke st ds ss):ke st (d::ds) (s::ss)
structure CJ (st:AS) (a dx l e:Nat) (ds:List Nat) (A:Au):Prop where
 obj:st a=some (.inst 6 dx [(32,.ref l),(55,.ref e)])
 steps:st l=some (.list (ds.map .ref))
 ends:st e=some (.list (A.ends.map .int))
 AP:ke st ds A.steps
inductive mX (st:AS) (a:Nat) (A:Au):Prop where
 |mk (dx l e:Nat) (ds:List Nat) (h0:CJ st a dx l e ds A):mX st a A
structure Au.Ok (A:Au):Prop where
 len:A.ends.length=A.steps.length
 pos:0<A.steps.length
 to:∀s∈A.steps,∀p∈s,p.2<A.steps.length
 nd:∀s∈A.steps,(s.map (·.1)).Nodup
noncomputable def Au.at (A:Au) (n:Nat):List (Int×Nat):=A.steps.getD n []
noncomputable def Au.step (A:Au) (n:Nat) (g:Int):Option Nat:=(A.at n).lookup g
open Mine.Au renaming step->U_
noncomputable def Au.end (A:Au) (n:Nat):Int:=A.ends.getD n (-1)
noncomputable def FC:Option Nat->Int
 |some t=>t
 |none=>-1
variable {aP:List (List (Int×Nat))}
theorem ke.le (c:eD b q) (h:ke b C aP):ke q C aP:=by
 induction h with
 |nil=>exact .nil
 |cons h _ a=>exact .cons (c _ _ h) a
variable {r:Au}
theorem mX.le (h:mX b a r) (c:eD b q):mX q a r:=let ⟨d,l,e,f,h⟩:=h;⟨d,l,e,f,c _ _ h.obj,c _ _ h.steps,c _ _ h.ends,h.AP.le c⟩
theorem ke.length (h:ke b C aP):C.length=aP.length:=by
 induction h with
 |nil=>rfl
 |cons _ _ a=>exact congrArg rW a
theorem ke.get (h:ke b C aP) {i:Nat} {s} (e:aP[i]? =some s):∃d,C[i]? =some d/\b d=some (.dict (dV s)):=by
 induction h generalizing i with
 |nil=>contradiction
 |cons h _ a=>
  induction i using ji with
  |zero=>clear a;(injection e with e;subst e);exact ei _ rfl h
  |succ i=>exact a e
variable {aD:List (Int×Nat)}
theorem rM (h:aD.lookup p=some a):(AV.int p,AV.int a)∈dV aD:=by
 induction aD with
 |nil=>contradiction
 |cons c r b=>
  obtain ⟨y,v⟩:=c
  rw [eM] at h
  split at h
  .rename_i e;have:=eq_of_beq e;clear b e;subst this;obtain rfl:=d3 h;exact .head _
  .exact .tail _ (b h)
theorem DR (h:aD.lookup p=none):AV.int p∉(dV aD).map (·.1):=by
 induction aD with
 |nil=>simp [dV]
 |cons c r a=>
  obtain ⟨y,v⟩:=c
  rw [eM] at h
  split at h
  .contradiction
  .rename_i e
   have b:p≠y:=λq=>by subst q;simp at e
   simp only [dV,eG,eK,AV.int.injEq,not_or]
   exact ⟨b,a h⟩
theorem nO (s:List (Int×Nat)):IntKeys (dV s):=λp a=>by
 refine iQ p (ck.mp a) λq _=>?_;exact ⟨q.1,rfl⟩
theorem yw (b:a<r.steps.length):r.steps[a]? =some (r.at a):=by
 unfold Au.at;rw [d_,df b];rfl
theorem CJ.dict (h:CJ b a d o I C r) (f:ak<r.steps.length):∃c,(C.map AV.ref)[ak]? =some (.ref c)/\b c=some (.dict (dV (r.at ak))):=by
 refine eS (h.AP.get (yw f)) λc g e=>?_
 exact ei c (by rw [ed,g];rfl) e
theorem CJ.len (h:CJ b a d o I C r):(C.map AV.ref).length=r.steps.length:=by rw [bb,h.AP.length]
theorem vl (d:r.Ok) (c:a<r.steps.length):(r.ends.map AV.int)[a]? =some (.int (r.end a)):=by
 have b:a<r.ends.length:=by rw [d.len];exact c
 unfold Au.end
 rw [ed,d_,df b];rfl
theorem sF (c:4<=d) (h:mX b a r) (f:n (.int r.steps.length) b):eE PG d (.fn 45) [.ref a] b n:=by
 obtain ⟨d,rfl⟩:∃k,d=k+2:=oJ (d -2) (by exact UL c)
 obtain ⟨g,l,e,i,h⟩:=h
 refine gO [some (.ref a)] (by exact Qo c) rfl rfl (iM (jd (eO (a5 rfl) h.obj rfl) (f7 h.steps)) (ei b (ec _) ?_))
 rw [h.len];exact f
theorem yx (g:3<=d) (h:mX b a r) (j:o<r.steps.length) (c:n (.int (FC (r.step o p))) b):eE PG d (.fn 46) [.ref a,.int o,.int p] b n:=by
 obtain ⟨d,rfl⟩:∃o,d=o+1:=oJ (d -1) (by exact Of g)
 obtain ⟨m,l,e,q,h⟩:=h
 refine eS (h.dict j) λs k i=>?_
 refine gO [some (.ref a),some (.int o),some (.int p)] (by exact eX g) rfl rfl (DQ (fq (eO (a5 rfl) h.obj rfl) h.steps (a5 rfl) k) i (.inl rfl) (iL (a5 rfl) dt _ ?_))
 refine ei _ i (.G9 (nO _) ?_)
 induction f:r.step o p using d7 with
 |some t=>
  rw [f] at c
  exact .inl (Dg _ (rM f) b (ec _) c)
 |none=>
  rw [f] at c
  exact .inr (tP (DR f) b (ec _) c)
noncomputable def xy (lo hi:Nat):List AV:=(eQ (hi -lo)).map λk=>.int (lo+k:Nat)
theorem tu (c:bH .pT (xy a d)):oh b bH (.pT a d 1):=.pT (by
 unfold w_ xy
 rw [if_pos rfl,show ((d:Int) - (a:Int)).toNat=d -a by exact EG d a]
 rfl) c
theorem PI (h:xy a d=j++l::aN):l= .int (a+j.length:Nat)/\a+j.length<d:=by
 have b:=congrArg fi h
 simp only [xy,bb,fc,bh,e_] at b
 have c:(xy a d)[j.length]? =some l:=by rw [h];simp
 unfold xy at c
 rw [ed,ju (by exact UM b)] at c
 exact ⟨(d3 c).symm,by exact Ve b⟩
theorem MT:(xy a d).length=d -a:=by simp [xy]
noncomputable def iC (A:Au):Nat->Nat->Nat×Int->List Int->Nat×Int
 |_,_,best,[]=>best
 |k,spot,best,g::r=>match A.step k g with
  |none=>best
  |some t=>iC A t (spot+1) (if A.end t= -1 then best else (spot+1,A.end t)) r
variable {dg:Nat×Int}
theorem pY:iC r a d dg (p::a8)=(match r.step a p with
 |none=>dg
 |some t=>iC r t (d+1) (if r.end t= -1 then dg else (d+1,r.end t)) a8):=rfl
theorem n_ (f:r.Ok) (h:r.step a p=some d):d<r.steps.length:=by
 have b:(p,d)∈r.at a:=by
  have:∀{s:List (Int×Nat)},s.lookup p=some d->(p,d)∈s:=by
   intro s
   induction s with
   |nil=>intro h;contradiction
   |cons g i c=>
    obtain ⟨y,v⟩:=g
    intro h
    rw [eM] at h
    split at h
    .rename_i e;have:=eq_of_beq e;clear f c e;subst this;obtain rfl:=d3 h;exact .head _
    .exact .tail _ (c h)
  exact this h
 unfold Au.at at b
 rw [d_] at b
 induction e:r.steps[a]? with
 |none=>rw [e] at b;contradiction
 |some s=>rw [e] at b;exact f.to s (fh e) (p,d) b
theorem xA (u:5<=d) (h:mX b a r) (s:r.Ok) (D:b o=some (.list (a8.map .int))) (B:a8.length<=1000000) (C:I<=a8.length) (z:n (.tup [.int (iC r 0 I (I,-1) (a8.drop I)).1,.int (iC r 0 I (I,-1) (a8.drop I)).2]) b):eE PG d (.fn 51) [.ref a,.ref o,.int I] b n:=by
 obtain ⟨d,rfl⟩:∃k,d=k+2:=oJ (d -2) (by exact UL u)
 obtain ⟨V,l,e,W,p⟩:=id h
 refine gO [some (.ref a),some (.ref o),some (.int I),none,none,none] (by exact Qo u) rfl rfl (g8 dt (g8 (g5 (iL (a5 rfl) dt)) ?_))
 refine g6 (l:=.bi 4) dt (iL (a5 rfl) (jd (a5 rfl) (f7 D))) (ei [(I:Int),((a8.map AV.int).length:Int)] rfl ?_)
 rw [bb]
 refine .two (iz (by exact a_ C B) (by exact B) (tu ?_))
 generalize E:iC r 0 I (I,-1) (a8.drop I)=R at z
 refine vj (λ(f:List AV) (m:MM) Q=>b=Q/\∃(k:Nat) (i:Nat×Int) (w:Option AV),m=[some (.ref a),some (.ref o),some (.int I),some (.int k),some (.tup [.int i.1,.int i.2]),w]/\k<r.steps.length/\iC r k (I+f.length) i (a8.drop (I+f.length))=R)
  ⟨rfl,0,(I,-1),none,rfl,s.pos,E⟩ ?_ ?_
 .intro f x l m _ e S K O;refine EM S λF k i w G A c=>?_;subst F;subst G
  refine Qm x (PI e) λJ=>?_
  have P:a8[I+f.length]? =some a8[I+f.length]:=df J
  rw [fP J] at c
  have L:(a8.map AV.int)[I+f.length]? =some (.int a8[I+f.length]):=by rw [ed,P];rfl
  refine tP trivial _ rfl (g8 (λn z=>jr (a5 rfl) p.obj rfl rfl rfl (iL (a5 rfl) (fq (a5 rfl) D (a5 rfl) L)) (yx (by exact Qo u) h A z)) ?_)
  refine ki (f9 (fU (a5 rfl) dt (eq_int rfl))) (λj=>?_) λj=>?_
  .have M:r.step k a8[I+f.length]=none:=by
    induction v:r.step k a8[I+f.length] using d7 with
    |none=>rfl
    |some t=>
     rw [v] at j
     have j:=of_decide_eq_true j
     have:((t:Nat):Int)= -1:=j
     exact (JA this.symm).elim
   rw [pY] at c
   rw [M] at c
   have c:i=R:=c
   clear h s D B C u p E A e O P L j M;subst c
   refine QF ?_
   show jo PG _ (w'.cons (CS.ret (CE.var 4)) w'.nil) _ _ _
   exact iM (a5 rfl) (ei _ (ec _) z)
  .induction v:r.step k a8[I+f.length] using d7 with
   |none=>rw [v] at j;exact absurd j (by decide)
   |some t=>
    have H:=n_ s v
    rw [pY] at c
    rw [v] at c
    have c:iC r t (I+f.length+1) (if r.end t= -1 then i else (I+f.length+1,r.end t)) (a8.drop (I+f.length+1))=R:=c
    have N:∀(y:Nat×Int),iC r t (I+f.length+1) y (a8.drop (I+f.length+1))=R->K [some (.ref a),some (.ref o),some (.int I),some (.int t),some (.tup [.int y.1,.int y.2]),some (.int (I+f.length:Nat))] b:=λy U=>
     O _ _ ⟨rfl,t,y,_,rfl,H,(by rw [bh];exact U)⟩
    refine ki (f9 (fU (fq (eO (a5 rfl) p.obj rfl) p.ends (a5 rfl) (vl s H)) dt (ne_int rfl))) (λg=>?_) λg=>?_
    .have g:r.end t≠-1:=λq=>by rw [q] at g;exact absurd g (by decide)
     rw [if_neg g] at c
     exact g8 (g5 (iL (ia (a5 rfl) dt rfl) (fq (eO (a5 rfl) p.obj rfl) p.ends (a5 rfl) (vl s H)))) (N (I+f.length+1,r.end t) c)
    .have g:r.end t= -1:=by
      refine gg λq=>?_
      rw [decide_eq_false q] at g;exact absurd g (by decide)
     rw [if_pos g] at c
     exact N i c
 .clear h s D B u p E;intro m _ T;refine EM T λF k i w G A c=>?_;subst F;subst G
  rw [MT,show I+(a8.length -I)=a8.length by exact Nat.add_sub_of_le C,ot] at c
  refine ⟨trivial,iM (a5 rfl) (ei _ (ec _) ?_)⟩
  have c:i=R:=c
  clear C A;subst c
  exact z
theorem DS (A:Au) (c:Nat):∀(r:List Int) (k a:Nat) (b:Nat×Int),iC A k (c+a) (c+b.1,b.2) r=(c+(iC A k a b r).1,(iC A k a b r).2):=by
 intro e
 induction e with
 |nil=>
  intro _ _ _
  exact rfl
 |cons g r d=>
  intro k a b
  rw [pY,pY]
  induction A.step k g with
  |none=>rfl
  |some t=>
   have:=d t (a+1) (if A.end t= -1 then b else (a+1,A.end t))
   dsimp only
   rw [<-this]
   by_cases h:A.end t= -1
   .rw [if_pos h,if_pos h];rfl
   .rw [if_neg h,if_neg h];rfl
noncomputable def j6 (A:Au) (s:List Int):Nat×Int:=iC A 0 0 (0,-1) s
theorem CK (A:Au) (c:Nat) (s:List Int):iC A 0 c (c,-1) s=(c+(j6 A s).1,(j6 A s).2):=DS A c s 0 0 (0,-1)
theorem Ke (A:Au):∀(r:List Int) (k a:Nat) (b:Nat×Int),b.1<=a->(b.2≠-1->0<b.1)->(iC A k a b r).1<=a+r.length/\((iC A k a b r).2≠-1->0<(iC A k a b r).1):=by
 intro f
 induction f with
 |nil=>
  intro _ _ _ h c
  exact ⟨h,c⟩
 |cons g r e=>
  intro k a b h c
  rw [pY]
  induction A.step k g with
  |none=>exact ⟨a_ h (eg _ _),c⟩
  |some t=>
   dsimp only
   have:(if A.end t= -1 then b else (a+1,A.end t)).1<=a+1/\((if A.end t= -1 then b else (a+1,A.end t)).2≠-1->0<(if A.end t= -1 then b else (a+1,A.end t)).1):=by
    by_cases d:A.end t= -1
    .rw [if_pos d];exact ⟨fY h,c⟩
    .rw [if_neg d];exact ⟨eJ _,λ_=>fz _⟩
   have:=e t (a+1) _ this.1 this.2
   rw [e_]
   exact ⟨by exact VY this.1 (gZ _ _ _),this.2⟩
theorem FD (A:Au) (s:List Int):(j6 A s).1<=s.length/\((j6 A s).2≠-1->0<(j6 A s).1):=by
 have:=Ke A s 0 0 (0,-1) (eJ _) (λh=>absurd rfl h)
 rwa [iW] at this
noncomputable def oQ:List Au->List Int->Nat×Int->Nat×Int
 |[],_,b=>b
 |A::r,s,b=>oQ r s (if b.2= -1 then j6 A s else b)
theorem uN (A:Au) (r:List Au) (s:List Int) (b:Nat×Int):oQ (A::r) s b=oQ r s (if b.2= -1 then j6 A s else b):=rfl
noncomputable def fX (As:List Au) (s:List Int):Nat×Int:=if (oQ As s (0,-1)).2= -1 then (1,s.headD 0) else oQ As s (0,-1)
theorem Kf:∀(a:List Au) (s:List Int) (b:Nat×Int),b.1<=s.length->(b.2≠-1->0<b.1)->(oQ a s b).1<=s.length/\((oQ a s b).2≠-1->0<(oQ a s b).1):=by
 intro f
 induction f with
 |nil=>
  intro _ _ h c
  exact ⟨h,c⟩
 |cons A r d=>
  intro s b h c
  rw [uN]
  by_cases e:b.2= -1
  .rw [if_pos e];exact d s _ (FD A s).1 (FD A s).2
  .rw [if_neg e];exact d s b h c
theorem q9 (a:List Au) (b:0<a8.length):(fX a a8).1<=a8.length/\0<(fX a a8).1:=by
 have:=Kf a a8 (0,-1) (ft _) (λh=>absurd rfl h)
 unfold fX
 by_cases h:(oQ a a8 (0,-1)).2= -1
 .rw [if_pos h];exact ⟨b,j9⟩
 .rw [if_neg h];exact ⟨this.1,this.2 h⟩
noncomputable def iF (next:List Int->Nat×Int):Nat->List Int->List Int
 |0,_=>[]
 |_+1,[]=>[]
 |f+1,g::r=>(next (g::r)).2::iF next f ((g::r).drop (next (g::r)).1)
theorem q_ (d:Ev i e b g (.tup j)) (c:jN C (.tup j) e=some bP) (a:2<=C.length) (h:jo PG i ah bP b ag):jo PG i (.cons (.ta C g) ah) e b ag:=d _ (pf _ _ rfl c a h)
theorem QG (j:Ev i e b g l) (h:oh b (λc f=>f.foldr (λx k e b=>c.ok b/\∃a,jN C x e=some a/\ jo PG i bg a b λd e b=>(match d with | .next=>k e b | .brk=>Nx i ah ag .next e b | .ret l=>Nx i ah ag (.ret l) e b)) (λe b=>c.ok b/\Nx i ah ag .next e b) e b) l):jo PG i (.cons (.kg C g bg) ah) e b ag:=j _ h
theorem FE (c:Ev i e b g (.ref a)) (d:b a=some (.list j)) (f:j.length<fE) (k:Ev i e b D l) (h:jo PG i ah e (b.set a (.list (j++[l]))) ag):jo PG i (.cons (.ex (.fL g 0 (.cons D .nil))) ah) e b ag:=
 IW c d (.inl rfl) (iJ k) (.app f h)
theorem vm (a:List Int->Nat×Int) (b:∀s,0<s.length->0<(a s).1):∀(f:Nat) (s:List Int),s.length<=f->iF a f s=iF a s.length s
 |0,s,h=>by
  have:s=[]:=gT.mp (by exact Nat.eq_zero_of_le_zero h)
  clear b h;subst this;rfl
 |f+1,[],_=>rfl
 |f+1,g::s,h=>by
  have d:=b (g::s) (fz _)
  have c:((g::s).drop (a (g::s)).1).length<=s.length:=by rw [ey,e_];exact j8 (d5 d _)
  rw [e_] at h
  show (a (g::s)).2::iF a f _=(a (g::s)).2::iF a s.length _
  rw [vm a b f _ (by exact a_ c (gY h)),vm a b s.length _ c]
inductive rN (st:AS):List Nat->List Au->Prop where
 |nil:rN st [] []
 |cons {t:Nat} {A:Au} {ts:List Nat} {As:List Au} (h:mX st t A) (o:A.Ok) (r:rN st ts As):rN st (t::ts) (A::As)
variable {dh:List Au}
theorem rN.get (h:rN b C dh) {i:Nat} (e:C[i]? =some a):∃A,dh[i]? =some A/\mX b a A/\A.Ok:=by
 induction h generalizing i with
 |nil=>contradiction
 |cons h o _ c=>
  induction i using ji with
  |zero=>clear c;(injection e with e;subst e);exact gq _ rfl h o
  |succ i=>exact c e
theorem rN.len (h:rN b C dh):C.length=dh.length:=by
 induction h with
 |nil=>rfl
 |cons _ _ _ a=>exact congrArg rW a
theorem AQ {d r:List t} (a:dq.map dA=d++dW::r):∃y,dq[d.length]? =some y/\dW=dA y:=by
 have:(dq.map dA)[d.length]? =some dW:=by rw [a];simp
 rw [ed] at this
 refine eS (fV.mp this) λy b e=>?_
 exact ei y b e.symm
theorem uO (H:6<=a) (G:b d=some (.list (C.map .ref))) (O:rN b C dh) (J:b o=some (.list (a8.map .int))) (P:a8.length<=10000) (L:∀c,b.free c->n (.ref c) (b.set c (.list ((iF (fX dh) a8.length a8).map .int)))):eE PG a (.fn 52) [.ref d,.ref o] b n:=by
 obtain ⟨a,rfl⟩:∃kK,a=kK+2:=oJ (a -2) (by exact UL H)
 refine gO [some (.ref d),some (.ref o),none,none,none,none,none] (by exact Qo H) rfl rfl ?_
 intro c U
 refine g8 dt ?_
 refine CH (λN (m:MM) h=>∃(p:Nat) (j:List Int) (w4 T u:Option AV),m=[some (.ref d),some (.ref o),some (.ref c),some (.int p),w4,T,u]/\h=b.set c (.list (j.map .int))/\p<=a8.length/\N=a8.length -p/\j.length<=p/\
  j++iF (fX dh) (a8.length -p) (a8.drop p)=iF (fX dh) a8.length a8)
  ⟨0,[],none,none,none,rfl,rfl,(ft _),rfl,(eJ _),rfl⟩ ?_
 intro N m h kI K Z;refine Dl kI λp j w4 T u kz kB R kH M z=>?_;subst kz;subst kB;subst kH
 have y:eD b (b.set c (.list (j.map .int))):=mU U.1
 refine f9 (fU (a5 rfl) (jd (a5 rfl) (f7 (y _ _ J))) (n0 rfl)) _ ?_
 rw [bb]
 by_cases w:p<a8.length
 .rw [decide_eq_true (show (p:Int)<(a8.length:Int) by exact (λ{a m}=>h9.mpr) w),if_pos rfl]
  have kl:0<(a8.drop p).length:=by rw [ey];exact Nat.zero_lt_sub_of_lt w
  have Y:a8.drop p=a8[p]::a8.drop (p+1):=fP w
  have kN:j++(fX dh (a8.drop p)).2::iF (fX dh) (a8.length - (p+(fX dh (a8.drop p)).1)) (a8.drop (p+(fX dh (a8.drop p)).1))=iF (fX dh) a8.length a8:=by
   refine iK (q9 dh kl) λD F=>?_
   rw [ey] at D
   rw [<-z,<-ig]
   obtain ⟨f,W⟩:∃f,a8.length -p=f+1:=oJ (a8.length -p -1) (by exact Of (d:=0) (iX w))
   rw [W]
   have e1:iF (fX dh) (f+1) (a8.drop p)=(fX dh (a8.drop p)).2::iF (fX dh) f ((a8.drop p).drop (fX dh (a8.drop p)).1):=by rw [Y];rfl
   have X:((a8.drop p).drop (fX dh (a8.drop p)).1).length=a8.length - (p+(fX dh (a8.drop p)).1):=by rw [ey,ey];exact UD a8.length p (fX dh (v5 p a8)).fst
   rw [e1,vm _ (λs hs=>(q9 dh hs).2) f _ (by rw [X];exact WX F W),X]
  refine q_ (g5 (iL (a5 rfl) dt)) rfl (by decide) (QG (a5 rfl) (gH (y _ _ G) ?_))
  refine vj (λ(I:List AV) (m:MM) h=>b.set c (.list (j.map .int))=h/\∃(i:Nat×Int) (u:Option AV),m=[some (.ref d),some (.ref o),some (.ref c),some (.int p),some (.int (p+i.1:Nat)),some (.int i.2),u]/\oQ (dh.drop I.length) (a8.drop p) i=oQ dh (a8.drop p) (0,-1))
   (Df rfl (0,-1) _ rfl rfl) ?_ ?_
  .intro I x l m S e ky K2 kn;refine Lq S m ky λi u r=>?_
   refine Lg x (AQ e) λt kM=>?_
   refine gi (O.get kM) λA km ku kD=>?_
   refine tP (y _ _ G) _ rfl (ki (f9 (fU (a5 rfl) dt (eq_int rfl))) (λg=>?_) λg=>?_)
   .have g:i.2= -1:=of_decide_eq_true g
    have kF:dh.drop I.length=A::dh.drop (I.length+1):=by
     obtain ⟨Q,V⟩:=ew.mp km
     rw [fP Q,V]
    rw [kF,uN,if_pos g] at r
    refine q_ (j:=[.int (p+(j6 A (a8.drop p)).1:Nat),.int (j6 A (a8.drop p)).2]) (λn L=>g6 dt (vE (a5 rfl) (a5 rfl) (a5 rfl)) (xA (by exact eX H) (ku.le y) kD (y _ _ J) (by exact a_ P (by decide)) R (by rw [CK];exact L))) rfl (by decide) ?_
    exact kn _ _ (Df rfl (j6 A (a8.drop p)) _ rfl (by rw [bh];exact r))
   .have g:i.2≠-1:=of_decide_eq_false g
    refine kn _ _ (Df rfl i _ rfl ?_)
    rw [bh]
    obtain ⟨Q,V⟩:=ew.mp km
    rw [fP Q,uN,if_neg g] at r
    exact r
  .intro m S kC;refine Lq S m kC λi u r=>?_
   rw [bb,O.len,ot] at r
   have r:i=oQ dh (a8.drop p) (0,-1):=r
   have kq:∀(q:Nat×Int) (u:Option AV),q=fX dh (a8.drop p)->jo PG (eE PG (a+1)) (.cons (.ex (.fL (.var 2) 0 (.cons (.var 5) .nil))) (.cons (.asg 3 (.var 4)) .nil)) [some (.ref d),some (.ref o),some (.ref c),some (.int p),some (.int (p+q.1:Nat)),some (.int q.2),u] (b.set c (.list (j.map .int)))
    (λE m h=>match E with
     | .next=>K m h
     | .brk=>Nx (eE PG (a+1)) (.cons (.ret (.var 2)) .nil) (λE _ h=>∃B,eD B h/\n (y8 E) B) .next m h
     | .ret v=>Nx (eE PG (a+1)) (.cons (.ret (.var 2)) .nil) (λE _ h=>∃B,eD B h/\n (y8 E) B) (.ret v) m h):=by
    intro q u kx;subst kx
    refine iK (q9 dh kl) λD F=>?_
    rw [ey] at D
    refine FE (a5 rfl) (gW _ _ _) (by rw [bb];unfold fE;exact c4 M (eh w (a_ P (by decide)))) (a5 rfl) (g8 (a5 rfl) ?_)
    refine Z _ _ _ ?_ ⟨(p+(fX dh (a8.drop p)).1),(j++[(fX dh (a8.drop p)).2]),_,_,_,rfl,?_,(by exact WY D F),rfl,?_,?_⟩
    .exact WZ D F
    .rw [Oe,b_];rfl
    .rw [bh];show j.length+1<=_;exact fO M F
    .rw [eC];exact kN
   refine ⟨y _ _ G,ki (f9 (fU (a5 rfl) dt (eq_int rfl))) (λg=>?_) λg=>?_⟩
   .have g:i.2= -1:=of_decide_eq_true g
    have kG:(a8.map AV.int)[p]? =some (.int a8[p]):=by rw [ed,df w];rfl
    refine q_ (g5 (iL (ia (a5 rfl) dt rfl) (fq (a5 rfl) (y _ _ J) (a5 rfl) kG))) rfl (by decide) ?_
    refine kq (1,a8[p]) _ ?_
    unfold fX
    rw [<-r,if_pos g,Y];rfl
   .have g:i.2≠-1:=of_decide_eq_false g
    refine kq i _ ?_
    unfold fX
    rw [<-r,if_neg g]
 .rw [decide_eq_false (show ¬(p:Int)<(a8.length:Int) by exact λq=>w (h9.mp q)),if_neg gL]
  have kJ:p=a8.length:=by exact ir R (mM w)
  clear G O J P H R Z M y w;subst kJ
  rw [jB] at z
  have z:j++[]=_:=z
  rw [eR] at z
  subst z
  show jo PG _ (w'.cons (CS.ret (CE.var 2)) w'.nil) _ _ _
  exact iM (a5 rfl) (ei _ (ec _) (L c U))
theorem AS.RG (d:eD b q):eD (b.set a ay) (q.set a ay):=λx f e=>by
 by_cases c:x=a
 .subst c;rw [gW] at e⊢;exact e
 .rw [gv c] at e⊢;exact d x f e
theorem BX (f:7<=d) (i:mX b a r) (p:r.Ok) (q:b o=some (.list (a8.map .int))) (m:a8.length<=10000) (h:∀c,b.free c->n (.ref c) (b.set c (.list ((iF (fX [r]) a8.length a8).map .int)))):eE PG d (.fn 53) [.ref a,.ref o] b n:=by
 obtain ⟨d,rfl⟩:∃k,d=k+1:=oJ (d -1) (by exact Of f)
 refine gO [some (.ref a),some (.ref o)] (by exact Qo f) rfl rfl (ei _ rfl (λc j=>⟨_,rfl,?_⟩))
 have e:eD b (b.set c (.list [.ref a])):=mU j.1
 exact uO (C:=[a]) (dh:=[r]) (by exact eX f) (gW _ _ _) (.cons (i.le e) p .nil) (e _ _ q) m λl g=>ei _ (AS.RG e) (h l (AS.Ha e g))
inductive zj (st:AS) (a:Nat) (s:List (Int×Nat)):Prop where
 |mk (dx d:Nat) (h0:st a=some (.inst 0 dx [(33,.ref d)])) (h1:st d=some (.dict (dV s))):zj st a s
theorem zj.le (h:zj b a aD) (c:eD b q):zj q a aD:=let ⟨e,d,g,f⟩:=h;⟨e,d,c _ _ g,c _ _ f⟩
theorem sf (g:3<=d) (h:zj b a aD) (c:n (.int (((aD.lookup p).getD 0:Nat))) b):eE PG d (.fn 2) [.ref a,.int p] b n:=by
 obtain ⟨d,rfl⟩:∃k,d=k+1:=oJ (d -1) (by exact Of g)
 obtain ⟨j,l,i,f⟩:=h
 refine gO [some (.ref a),some (.int p)] (by exact eX g) rfl rfl (DQ (eO (a5 rfl) i rfl) f (.inl rfl) (iL (a5 rfl) dt _ ?_))
 refine ei _ f (.G9 (nO _) ?_)
 induction e:aD.lookup p using d7 with
 |some t=>
  rw [e] at c
  exact .inl (Dg _ (rM e) b (ec _) c)
 |none=>
  rw [e] at c
  exact .inr (tP (DR e) b (ec _) c)
theorem AR (h:VE PG i g e b λv b=>ag (.ret v) e b):jo PG i (.cons (.ret g) ah) e b ag:=h
theorem QH (a:Ev i e b g l) (h:VE PG i D e b λw b=>pV b (λr=>n (.bool r) b) bI l w):VE PG i (.cmp g bI D) e b n:=a _ h
noncomputable def jF (A:Au):Nat->List Int->Bool
 |k,[]=>!(A.at k).isEmpty
 |k,g::r=>match A.step k g with
  |none=>false
  |some t=>jF A t r
structure Ua (st:AS) (f dx t l:Nat) (A:Au) (held:List Int):Prop where
 obj:st f=some (.inst 7 dx [(56,.ref t),(57,.ref l)])
 list:st l=some (.list (held.map .int))
 au:mX st t A
 ok:A.Ok
theorem DT (q:5<=a) (h:Ua b d o I ak r a8) (j:n (.bool (jF r 0 a8)) b):eE PG a (.fn 55) [.ref d] b n:=by
 obtain ⟨a,rfl⟩:∃k,a=k+1:=oJ (a -1) (by exact Of q)
 refine gO [some (.ref d),none,none] (by exact Qo q) rfl rfl (g8 dt (QG (eO (a5 rfl) h.obj rfl) (gH h.list ?_)))
 obtain ⟨O,N,Q,M,p⟩:=id h.au
 refine vj (λ(y:List AV) (m:MM) D=>b=D/\∃(k:Nat) (w:Option AV),m=[some (.ref d),some (.int k),w]/\k<r.steps.length/\jF r k (a8.drop y.length)=jF r 0 a8) (nW rfl 0 none rfl h.ok.pos rfl) ?_ ?_
 .intro y x P m _ e z K E;refine Dk z λu k w v t f=>?_;clear z;subst u;subst v
  refine Lg x (AQ e) λg G=>?_
  obtain ⟨J,H⟩:=ew.mp G
  rw [fP J,H] at f
  refine tP h.list _ rfl (g8 (λn j=>jr (eO (a5 rfl) h.obj rfl) p.obj rfl rfl rfl (iL (a5 rfl) (a5 rfl)) (yx (by exact Qo q) h.au t j)) ?_)
  refine ki (f9 (fU (a5 rfl) dt (eq_int rfl))) (λl=>?_) λl=>?_
  .have s:r.step k g=none:=by
    induction i:r.step k g using d7 with
    |none=>rfl
    |some I=>
     rw [i] at l
     have:((I:Nat):Int)= -1:=of_decide_eq_true l
     exact (JA this.symm).elim
   have f:jF r 0 a8=false:=by
    rw [<-f]
    show (match r.step k g with |none=>false |some I=>jF r I _)=false
    rw [s]
   rw [f] at j
   exact iM dt (ei _ (ec _) j)
  .induction i:r.step k g using d7 with
   |none=>rw [i] at l;exact absurd l (by decide)
   |some C=>
    refine E _ _ (nW rfl C _ rfl (n_ h.ok i) ?_)
    rw [bh,<-f]
    show _=(match r.step k g with |none=>false |some I=>jF r I _)
    rw [i];rfl
 .intro m _ B;refine Dk B λu k w v t f=>?_;clear q B;subst u;subst v
  rw [bb,ot] at f
  refine eS (p.dict t) λy L s=>?_
  refine ⟨h.list,?_⟩
  refine AR (QH (fq (eO (eO (a5 rfl) h.obj rfl) p.obj rfl) p.steps (a5 rfl) L) ?_)
  refine gq [] rfl eI (λc i=>?_)
  have A:eD b (b.set c (.dict [])):=mU i.1
  refine .ne (.Ij (A _ _ s) (nO _) (gW _ _ _)) (ei b A ?_)
  have f:(!(r.at k).isEmpty)=jF r 0 a8:=f
  rw [<-f] at j
  have F:(dV (r.at k)).isEmpty=(r.at k).isEmpty:=by unfold dV;exact List.isEmpty_map ..
  show n (.bool (!(dV (r.at k)).isEmpty)) b
  rw [F];exact j
theorem AU:cut j (.int a) .none=some (j.drop a):=if_pos (c:=(0:Int)<=(a:Int)) (e:=none) (gC a)
theorem Hz:cut j .none (.int a)=some (j.take a):=if_pos (c:=(0:Int)<=(a:Int)) (e:=none) (gC a)
theorem IX:cut j (.int a) (.int d)=some ((j.take d).drop a):=if_pos (c:=(0:Int)<=(a:Int)/\(0:Int)<=(d:Int)) (e:=none) ⟨gC a,gC d⟩
theorem MU (l:Ev i e b g (.ref a)) (k:b a=some (.list j)) (f:Ev i e b D (.int d)) (h:∀c,b.free c->n (.ref c) (b.set c (.list (j.drop d)))):VE PG i (.tZ g D (.cst .none)) e b n:=l _ (f _ (.list k AU h))
theorem IY (c:Ev i e b g (.ref d)) (f:b d=some (.inst o I aS)) (h:jo PG i ah e (b.set d (.inst o I (iy aS a l))) ag):
 VE PG i g e b (λj b=>xa b (λd o I aS=>Nx i ah ag .next e (b.set d (.inst o I (iy aS a l)))) j):=c _ (.mk f h)
theorem qO (A:Au) (s:List Int):fX [A] s=if (j6 A s).2= -1 then (1,s.headD 0) else j6 A s:=rfl
theorem FF (f:6<=a) (h:Ua b d o I ak r a8) (x:0<a8.length) (p:a8.length<=10000) (i:∀c,b.free c->n (.int (fX [r] a8).2) ((b.set c (.list ((a8.drop (fX [r] a8).1).map .int))).set d (.inst 7 o [(56,.ref I),(57,.ref c)]))):eE PG a (.fn 56) [.ref d] b n:=by
 obtain ⟨a,rfl⟩:∃v,a=v+1:=oJ (a -1) (by exact Of f)
 have j:∀(q:Nat×Int),q=fX [r] a8->jo PG (eE PG a) (.cons (.iA (.var 0) 57 (.tZ (.attr (.var 0) 57) (.var 1) (.cst .none))) (.cons (.ret (.var 2)) .nil)) [some (.ref d),some (.int q.1),some (.int q.2)] b (λw _ t=>∃s,eD s t/\n (y8 w) s):=by
  intro q u;subst u
  refine MU (eO (a5 rfl) h.obj rfl) h.list (a5 rfl) λc m=>?_
  refine IY (a5 rfl) (by rw [gv (m.ne h.obj)];exact h.obj) (iM (a5 rfl) (ei _ (ec _) ?_))
  rw [<-oT]
  exact i c m
 refine gO [some (.ref d),none,none] (by exact Qo f) rfl rfl ?_
 refine q_ (j:=[.int (j6 r a8).1,.int (j6 r a8).2]) (λn i=>g6 dt (vE (eO (a5 rfl) h.obj rfl) (eO (a5 rfl) h.obj rfl) dt) (xA (by exact eX f) h.au h.ok h.list (by exact a_ p (by decide)) (I:=0) (ft _) i)) rfl (by decide) ?_
 refine ki (f9 (fU (a5 rfl) dt (eq_int rfl))) (λe=>?_) λe=>?_
 .have e:(j6 r a8).2= -1:=of_decide_eq_true e
  have l:(a8.map AV.int)[0]? =some (.int a8[0]):=by rw [ed,df x];rfl
  refine q_ (g5 (iL dt (fq (d:=0) (eO (a5 rfl) h.obj rfl) h.list dt l))) rfl (by decide) (j (1,a8[0]) ?_)
  rw [qO,if_pos e]
  clear h p i f j e l;clear e;induction a8 using ej with
  |nil=>contradiction
  |cons g y=>rfl
 .have e:(j6 r a8).2≠-1:=of_decide_eq_false e
  exact j (j6 r a8) (by rw [qO,if_neg e])
noncomputable def Al (X:Ak) (m:MM) (st:AS) (e:CE) (P:AV->AS->Prop):Prop:=∀Q:AV->AS->Prop,(∀v st',eD st st'->P v st'->Q v st')->VE PG X e m st Q
noncomputable def Cl (X:Ak) (f:AV) (vs:List AV) (st:AS) (P:AV->AS->Prop):Prop:=∀Q:AV->AS->Prop,(∀v st',eD st st'->P v st'->Q v st')->X f vs st Q
noncomputable def At (X:Ak) (m:MM) (st:AS) (e:CE) (b:Bool):Prop:=∀Q:Bool->AS->Prop,(∀st',eD st st'->Q b st')->VT PG X e (VE PG X e) m st Q
structure sg (st st':AS) (c:Nat) (o:AO):Prop where
 le:eD st st'
 at_:st' c=some o
 fr:st c=none
structure Upd (st st':AS) (a:Nat) (o:AO):Prop where
 at_:st' a=some o
 ne:∀b,b≠a->st' b=st b
structure i0 (s0 st:AS) (c:Nat) (o:AO):Prop where
 at_:st c=some o
 fr:s0 c=none
theorem fM (h:b.free a):sg b (b.set a ay) a ay:=⟨mU h.1,gW _ _ _,h.1⟩
theorem pq:Upd b (b.set a ay) a ay:=⟨gW _ _ _,λ_ h=>gv h⟩
theorem Upd.le (h:Upd b ax a ay) (d:eD q b) (c:q a=none):eD q ax:=λx f e=>by
 rw [h.ne x λg=>by rw [g,c] at e;contradiction];exact d x f e
theorem sg.ne (h:sg b q a ay) (c:b d=some cF):d≠a:=λe=>by rw [e,h.fr] at c;contradiction
theorem sg.own {s0:AS} (h:sg b q a ay) (c:eD s0 b):i0 s0 q a ay:=⟨h.at_,jE c h.fr⟩
theorem i0.le (h:i0 q b a ay) (c:eD b ax):i0 q ax a ay:=⟨c _ _ h.at_,h.fr⟩
theorem i0.keep (h:i0 q b a ay) (u:Upd b ax d cF) (c:a≠d):i0 q ax a ay:=⟨(u.ne a c).trans h.at_,h.fr⟩
theorem Upd.own {s0:AS} (u:Upd b q a ay) (h:s0 a=none):i0 s0 q a ay:=⟨u.at_,h⟩
theorem jG (h:Ev i e b g l) (c:n l b):Al i e b g n:=λQ a=>h _ (a _ _ (ec _) c)
variable {bw:AV->AS->Prop}
theorem qp (h:Al i e b g n) (f:∀v a,eD b a->n v a->bw v a):Al i e b g bw:=λQ d=>h _ λv a c q=>d v a c (f v a c q)
theorem gw (a:Ev i e b g l) (d:IV i e b ar j) (h:Cl i l j b n):Al i e b (.call g ar) n:=λQ c=>a _ (d _ (h Q c))
theorem xB (p:Al i e b g bw) (h:∀v a,eD b a->bw v a->Cl i l [v] a n):Al i e b (.call (.cst l) (.cons g .nil)) n:=
 λQ j=>p _ λv f c o=>h v f c o Q λw d k m=>j w d (b4 c k) m
theorem pv (h:Tv i e b g aw):At i e b g aw:=λQ a=>h _ (a _ (ec _))
theorem wq (h:Al i e b (.cmp g bI D) λv _=>v= .bool aw):At i e b (.cmp g bI D) aw:=λQ a=>h _ λv d f c=>by subst c;exact ei _ (.bool _) (a d f)
theorem rO (h:Al i e b (.call g ar) λv _=>v= .bool aw):At i e b (.call g ar) aw:=λQ c=>h _ λv f a d=>by subst d;exact ei _ (.bool _) (c f a)
theorem MV (h:Al i e b (.fL g a ar) λv _=>v= .bool aw):At i e b (.fL g a ar) aw:=λQ c=>h _ λv f j d=>by subst d;exact ei _ (.bool _) (c f j)
theorem yy (h:At i e b g aw):At i e b (.not g) (!aw):=λQ a=>h _ a
theorem DU (h:At i e b g aw) (j:aw=true->∀d,eD b d->At i e d D bN):At i e b (.and g D) (aw&&bN):=λQ c=>h _ λk a=>by
 clear h;induction aw with
 |true=>exact j rfl k a _ λf l=>c f (b4 a l)
 |false=>exact c _ a
theorem FG (h:At i e b g aw) (j:aw=false->∀d,eD b d->At i e d D bN):At i e b (.or g D) (aw||bN):=λQ c=>h _ λk a=>by
 clear h;induction aw with
 |false=>exact j rfl k a _ λf l=>c f (b4 a l)
 |true=>exact c _ a
theorem AW (o:Al i e b g bw) (k:∀v a,eD b a->bw v a->Al i e a D λw c=>∀Q:Bool->Prop,(∀r,n (.bool r) c->Q r)->pV c Q bI v w):Al i e b (.cmp g bI D) n:=
 λQ f=>o _ λv a d m=>k v a d m _ λw c j l=>l _ λr h=>f _ _ (b4 d j) h
theorem jO (m:MM) (e:3<=a) (k:PG.fns[d]? =some de) (i:bindArgs de j=some m) (h:∀d,a=d+1->∀R:Fl->MM->AS->Prop,(∀v m c,eD b c->n v c->R (.ret v) m c)->jo PG (eE PG d) de.body m b R):Cl (eE PG a) (.fn d) j b n:=λQ f=>by
 obtain ⟨a,rfl⟩:∃d,a=d+1:=oJ (a -1) (by exact Of e)
 exact gO m (by exact eX e) k i (h a rfl _ λv m c l g=>(ei c (ec _) (f v c l g)))
theorem uP (h:Cl i l j b n) (e:∀v a,eD b a->n v a->bw v a):Cl i l j b bw:=λQ d=>h _ λv a c q=>d v a c (e v a c q)
theorem yz (d:Al i e b g n) (h:∀v c,eD b c->n v c->jo PG i ah (e.set a (some v)) c ag):jo PG i (.cons (.asg a g) ah) e b ag:=d _ h
theorem sG (g:IV i e b ar j) (h:∀c d,sg b d c (.list j)->jo PG i ah (e.set a (some (.ref c))) d ag):jo PG i (.cons (.asg a (.lst ar)) ah) e b ag:=g _ λc f=>h c _ (fM f)
theorem zk (h:∀c d,sg b d c (.dict [])->jo PG i ah (e.set a (some (.ref c))) d ag):jo PG i (.cons (.asg a (.dict .nil)) ah) e b ag:=gq [] rfl eI (λc f=>h c _ (fM f))
theorem sh (c:Al i e b g n) (h:∀v a,eD b a->n v a->ag (.ret v) e a):jo PG i (.cons (.ret g) ah) e b ag:=c _ h
theorem pF {c:w'} (d:At i e b g aw) (h:∀a,eD b a->(aw=true->jo PG i bg e a (Nx i ah ag))/\(aw=false->jo PG i c e a (Nx i ah ag))):jo PG i (.cons (.iff g bg c) ah) e b ag:=d _ λa f=>by
 clear d;induction aw with
 |true=>exact (h a f).1 rfl
 |false=>exact (h a f).2 rfl
theorem s_end (h:jo PG i ah e b ag):jo PG i .nil e b (Nx i ah ag):=h
theorem qD (d:Ev i e b g (.ref a)) (f:b a=some (.list j)) (k:j.length<fE) (m:Ev i e b D l) (h:∀c,Upd b c a (.list (j++[l]))->jo PG i ah e c ag):jo PG i (.cons (.ex (.fL g 0 (.cons D .nil))) ah) e b ag:=
 FE d f k m (h _ pq)
noncomputable def Lp (X:Ak) (r:w') (T:Fl->MM->AS->Prop) (K:MM->AS->Prop):Fl->MM->AS->Prop:=λfl m st=>match fl with | .next=>K m st | .brk=>jo PG X r m st T | .ret v=>T (.ret v) m st
noncomputable def MW (X:Ak) (tgt:List Nat) (b r:w') (T:Fl->MM->AS->Prop) (m:MM) (v:AV) (st:AS):Prop:=
 oh st (λit xs=>xs.foldr (λx k m st=>it.ok st/\∃m',jN tgt x m=some m'/\jo PG X b m' st (Lp X r T k)) (λm st=>it.ok st/\jo PG X r m st T) m st) v
theorem rd (c:Al i e b g n) (h:∀v a,eD b a->n v a->MW i C bg ah ag e v a):jo PG i (.cons (.kg C g bg) ah) e b ag:=c _ h
theorem oR (a:Ev i e b g l) (h:MW i C bg ah ag e l b):jo PG i (.cons (.kg C g bg) ah) e b ag:=a _ h
theorem iG (o:It) (g:List h) (f:h->AV) (t:∀Q:It->List AV->Prop,Q o (g.map f)->oh b Q l) (I:List h->MM->AS->Prop) (v:I [] e b) (m:∀d e a,I d e a->o.ok a) (r:∀d y j e a,g=d++y::j->I d e a->∀K:MM->AS->Prop,(∀n p,I (d++[y]) n p->K n p)->∃k,jN C (f y) e=some k/\jo PG i bg k a (Lp i ah ag K)) (u:∀e a,I g e a->jo PG i ah e a ag):MW i C bg ah ag e l b:=t _ (by
 rw [B8]
 refine vj I v (λd x j e a q c K s=>⟨m _ _ _ c,?_⟩) λe a c=>⟨m _ _ _ c,u e a c⟩
 exact r d x j e a q c K s)
theorem oM (N:Nat) (I:Nat->MM->AS->Prop) (p:I N e b) (f:∀N e c,I N e c->∀K:MM->AS->Prop,(∀j m o,j<N->I j m o->K m o)->∃t,At i e c g t/\∀a,eD c a->(t=true->jo PG i bg e a (Lp i ah ag K))/\(t=false->jo PG i ah e a ag)):
 jo PG i (.cons (.ET g bg) ah) e b ag:=CH I p λN e c d K l=>by
 refine eS (f N e c d K l) λt k h=>?_
 refine k _ λa n=>?_
 clear p f d l k;induction t with
 |true=>exact (h a n).1 rfl
 |false=>exact (h a n).2 rfl
noncomputable def FH (X:Ak) (elt:CE) (tgt:List Nat) (conds:w0) (rest:Gens) (mc:MM) (Q:AV->AS->Prop) (v:AV) (st:AS):Prop:=
 oh st (λit xs=>xs.foldr (λx k acc st=>it.ok st/\∃m',jN tgt x mc=some m'/\Oi PG X conds m' st λt st=>if t then VG PG X (VE PG X elt) rest m' acc st k else k acc st)
  (λacc st=>it.ok st/\∀c,st.free c->Q (.ref c) (st.set c (.list acc))) [] st) v
variable {bz:List (Option Nat)}
theorem RH (d:Al i e b D bw) (h:∀v a,eD b a->bw v a->FH i g C ar bD (bz.map λc=>c.bind λj=>(e[j]?).join) n v a):
 VE PG i (.comp bz g C D ar bD) e b n:=d _ h
theorem DV (a:Ev i e b D l) (h:FH i g C ar bD (bz.map λc=>c.bind λj=>(e[j]?).join) n l b):
 VE PG i (.comp bz g C D ar bD) e b n:=a _ h
theorem tv (v:It) (o:List h) (f:h->AV) (E:∀n:It->List AV->Prop,n v (o.map f)->oh b n l) (I:List h->List AV->AS->Prop) (G:I [] [] b) (r:∀d j a,I d j a->v.ok a) (A:∀d y q j a,o=d++y::q->I d j a->∀K:List AV->AS->Prop,(∀u w,I (d++[y]) u w->K u w)->∃p,jN C (f y) e=some p/\Oi PG i ar p a λt b=>if t then VG PG i (VE PG i g) bD p j b K else K j b) (F:∀j a s c,I o j a->sg a s c (.list j)->n (.ref c) s):FH i g C ar bD e n l b:=E _ (by
 rw [B8]
 refine vj I G (λd x q m a z k K D=>⟨r _ _ _ k,?_⟩) λm a k=>⟨r _ _ _ k,λc B=>F m a _ c k (fM B)⟩
 exact A d x q m a z k K D)
noncomputable def Ub (X:Ak) (m:MM) (st:AS) (es:w0) (b:Bool):Prop:=∀Q:Bool->AS->Prop,(∀st',eD st st'->Q b st')->Oi PG X es m st Q
theorem xC:Ub i e b .nil true:=λQ a=>a _ (ec _)
theorem tw (h:At i e b g aw):Ub i e b (.cons g .nil) aw:=λQ c=>h _ λd a=>by
 clear h;induction aw with
 |true=>exact c _ a
 |false=>exact c _ a
noncomputable abbrev gN (st:AS) (xs:List AV):AV->AS->Prop:=λv st'=>∃c,v= .ref c/\i0 st st' c (.list xs)
theorem tx (p:h->Bool) (s:h->AV) (l:List h) (f:h->AV) (J:l.length<=fE) (M:Al i e b D n) (W:∀v m,eD b m->n v m->∃t:It,(∀k,eD m k->t.ok k)/\∀Q:It->List AV->Prop,Q t (l.map f)->oh m Q v) (H:∀y∈l,∀a,eD b a->∃o,jN C (f y) (bz.map λc=>c.bind λj=>(e[j]?).join)=some o/\Ub i o a ar (p y)/\(p y=true->∀k,eD a k->Al i o k g λv _=>v=s y)):
 Al i e b (.comp bz g C D ar .nil) (gN b ((l.filter p).map s)):=λQ V=>by
 refine RH M λv m z u=>?_
 refine eS (W v m z u) λt Z G=>?_
 refine tv t l f G (λd r a=>eD m a/\r=(d.filter p).map s) ⟨ec _,rfl⟩ (λd r a O=>Z _ O.1) ?_ ?_
 .intro d y Y r a B L K E;refine Va r L λq=>?_
  refine gi (H y (by rw [B];simp) a (b4 z q)) λo X I P=>?_
  refine ei o X (I _ λk x=>?_)
  have N:((d.filter p).map s).length<fE:=by
   rw [bb]
   have U:=GZ p d
   have T:l.length=d.length+(Y.length+1):=by rw [B,bh,e_]
   exact c4 U (eh (UM T) J)
  induction w:p y with
  |true=>
   refine P w k x _ λv kl S u=>?_
   subst u
   exact ⟨N,E _ _ ⟨b4 q (b4 x S),by rw [xY,b_,k8 w];rfl⟩⟩
  |false=>exact E _ _ ⟨b4 q x,by rw [xY,k9 (by rw [w];exact gL)];simp⟩
 .intro r a k c R A;obtain ⟨q,rfl⟩:=R
  have F:=b4 z q
  exact V _ _ (b4 F A.le) (ei c rfl (A.own F))
variable {dE:h->AV}
theorem uQ (p:h->Bool) (d:h->AV) (r:dq.length<=fE) (t:Ev i e b D (.ref a)) (m:b a=some (.list (dq.map dE))) (q:∀y∈dq,∀k,eD b k->∃f,jN C (dE y) (bz.map λc=>c.bind λj=>(e[j]?).join)=some f/\Ub i f k ar (p y)/\(p y=true->∀l,eD k l->Al i f l g λv _=>v=d y)):
 Al i e b (.comp bz g C D ar .nil) (gN b ((dq.filter p).map d)):=
 tx p d dq dE r (n:=λv s=>v= .ref a) (jG t rfl) (λv w n o=>by subst o;exact (ei (.list a _) (λl u=>u _ _ (n _ _ m)) (λQ=>gH (n _ _ m)))) q
theorem tA (m:h->AV) (q:dq.length<=fE) (r:Ev i e b D (.ref a)) (p:b a=some (.list (dq.map dE))) (k:∀y∈dq,∀d,eD b d->∃n,jN C (dE y) (bz.map λc=>c.bind λj=>(e[j]?).join)=some n/\Al i n d g λv _=>v=m y):
 Al i e b (.comp bz g C D .nil .nil) (gN b (dq.map m)):=by
 have:=uQ (C:=C) (g:=g) (ar:=.nil) (bz:=bz) (λ_=>true) m q r p λy l d f=>gq (k y l d f).choose (k y l d f).choose_spec.1 xC (λ_ u t=>?_)
 .rwa [jv.mpr λ_ _=>rfl] at this
 .refine eS (k y l u (b4 f t)) λn o s=>?_
  rw [(k y l d f).choose_spec.1] at o
  cases d3 o;exact s
theorem FI (p:h->Bool) (a:h->AV) (o:dq.length<=fE) (q:Al i e b D (gN b (dq.map dE))) (n:∀y∈dq,∀f,eD b f->∃d,jN C (dE y) (bz.map λc=>c.bind λj=>(e[j]?).join)=some d/\Ub i d f ar (p y)/\(p y=true->∀k,eD f k->Al i d k g λv _=>v=a y)):
 Al i e b (.comp bz g C D ar .nil) (gN b ((dq.filter p).map a)):=
 tx p a dq dE o q (λv t s m=>by refine jj v m λc l=>?_;exact (ei (.list c _) (λk r=>r _ _ l.at_) (λQ=>gH l.at_))) n
theorem xD (l:h->AV) (q:dq.length<=fE) (r:Al i e b D (gN b (dq.map dE))) (f:∀y∈dq,∀a,eD b a->∃m,jN C (dE y) (bz.map λc=>c.bind λj=>(e[j]?).join)=some m/\Al i m a g λv _=>v=l y):
 Al i e b (.comp bz g C D .nil .nil) (gN b (dq.map l)):=by
 have:=FI (C:=C) (g:=g) (ar:=.nil) (bz:=bz) (λ_=>true) l q r λy k a d=>gq (f y k a d).choose (f y k a d).choose_spec.1 xC (λ_ p o=>?_)
 .rwa [jv.mpr λ_ _=>rfl] at this
 .refine eS (f y k p (b4 d o)) λm n s=>?_
  rw [(f y k a d).choose_spec.1] at n
  cases d3 n;exact s
theorem IZ (c:Ev i e b g l) (a:Al i e b D λx _=>x=af):Al i e b (.tup (.cons g (.cons D .nil))) λx _=>x= .tup [l,af]:=λQ d=>c _ (a _ λx j h f=>by clear c a;subst f;exact d _ _ h rfl)
noncomputable def jy (w lead:g9):Bool:=decide (w.take lead.length=lead)
noncomputable def mP:List Row->List Row->List Row
 |f,[]=>f
 |f,r::rs=>mP (if f.any (λq=>jy r.1 q.1) then f else f++[r]) rs
noncomputable def live (rs:List Row):List Row:=mP [] rs
theorem FJ:∀(d:List Row) (f r:List Row),mP f (d++r)=mP (mP f d) r:=by
 intro b
 induction b with
 |nil=>
  intro _ _
  exact rfl
 |cons x d a=>
  intro f r
  exact a _ r
theorem oX (d:List Row) (r:Row):live (d++[r])=if (live d).any (λq=>jy r.1 q.1) then live d else live d++[r]:=FJ d [] [r]
theorem xE:∀(d f:List Row),(mP f d).Sublist (f++d):=by
 intro b
 induction b with
 |nil=>
  intro f
  rw [eR];exact .refl _
 |cons x d a=>
  intro f
  refine (a _).trans ?_
  split
  .exact .append_left (List.sublist_cons_self _ _) _
  .rw [eC];exact .refl _
theorem xF (d:List Row):(live d).length<=d.length:=(xE d []).length_le
variable {av:g9}
theorem rf (d:Ev i e b g (tI av)) (c:Ev i e b D (.int a)):Ev i e b (.tZ g (.cst .none) D) (tI (av.take a)):=λQ f=>d _ (c _ (.tup Hz (qh▸f)))
theorem AX (d:Ev i e b g (tI av)) (c:Ev i e b D (.int a)):Ev i e b (.tZ g D (.cst .none)) (tI (av.drop a)):=λQ f=>d _ (c _ (.tup AU (oT▸f)))
theorem pw (c:Ev (eE PG (a+1)) e b g (tI av)):Ev (eE PG (a+1)) e b (.call (.cst (.bi 0)) (.cons g .nil)) (.int av.length):=by
 have:=jd c (j:=av.map .int) (λ_ h=>.tup h)
 rwa [bb] at this
variable {bS:g9}
theorem AY (d:Ev i e b g (tI av)) (a:Ev i e b D (tI bS)):Ev i e b (.cmp g .eq D) (.bool (decide (av=bS))):=fU d a λQ c=>.eq MP c
theorem MX (d:Ev i e b g (tI av)) (a:Ev i e b D (tI bS)):Ev i e b (.cmp g .ne D) (.bool (!decide (av=bS))):=fU d a λQ c=>.ne MP c
theorem FK (e:n (.bool (jy av bS)) b):Cl (eE PG (a+3)) (.fn 32) [tI av,tI bS] b n:=
 jO [some (tI av),some (tI bS)] (c_ _ _) rfl rfl λk c R d=>by
  (injection c with c;subst c)
  exact iM (AY (rf (a5 rfl) (pw (a5 rfl))) (a5 rfl)) (d _ _ _ (ec _) e)
theorem MY (s:Al i e b g (gN b j)) (k:∀x∈j,Plain x) (m:∀f,eD b f->n (.bool (decide (j=[]))) f):Al i e b (.cmp g .eq (.lst .nil)) n:=
 AW s λv u q p=>by
  refine jj v p λc o=>?_
  exact λQ l d a=>l _ _ (mU a.1) λt r=>.eq (.list ((fM a).le _ _ o.at_) (fM a).at_ k (λ_ h=>absurd h ee) _ decide_eq_true_iff) (r _ (m _ (b4 q (fM a).le)))
variable {a7:List Row}
theorem CL (w:b d=some (.list (a7.map ie))) (D:a7.length<=fE):Cl (eE PG (a+4)) (.fn 33) [.ref d] b (gN b ((live a7).map ie)):=
 jO [some (.ref d),none,none,none] (c_ _ _) rfl rfl λk p R B=>by
  (injection p with p;subst p)
  refine sG gP λc I o=>?_
  refine oR (a5 rfl) (iG (.list d _) a7 ie (λQ=>gH (o.le _ _ w)) (λg m i=>eD b i/\i0 b i c (.list ((live g).map ie))/\∃s u,m=[some (.ref d),some (.ref c),s,u]) (qU o.le (o.own (ec _)) _ _ rfl) (λg m i h=>h.1 _ _ w) ?_ ?_)
  .intro g r J m i e C K v;refine rZ m C λl f s u=>?_
   refine ei [some (.ref d),some (.ref c),some (tI r.1),some (.int r.2)] rfl ?_
   have y:(live g).length<fE:=c4 (xF g) (eh (by rw [e,bh,e_];exact gj (fz _)) D)
   refine pF (aw:=!(live g).any (λq=>jy r.1 q.1)) (wq (MY (uQ (λq:Row=>jy r.1 q.1) (λq=>tI q.1) (eA y) (a5 rfl) f.at_ λq _ G H=>
    (gq [none,some (tI q.1),some (.int q.2),some (tI r.1)] rfl (tw (rO (gw dt (iL (a5 rfl) (a5 rfl)) (FK rfl)))) (λ_ L _=>jG (a5 rfl) rfl))) (λx A=>?_) λF _=>?_)) λF n=>⟨λj=>?_,λj=>?_⟩
   .refine iQ x (ck.mp A) λq _=>?_
    exact xw _
   .refine congrArg AV.bool ?_
    rw [BE,decide_eq_true_iff,jt,jA,fK,nK]
   .refine qD (a5 rfl) (n _ _ f.at_) (by rw [bb];exact y) (g5 (iL (a5 rfl) (a5 rfl))) λG z=>?_
    refine v _ _ (qU (z.le (b4 l n) f.fr) ⟨?_,f.fr⟩ _ _ rfl)
    rw [z.at_,oX,if_neg (by rw [fK] at j;rw [j];exact gL),b_];rfl
   .refine v _ _ (qU (b4 l n) ?_ _ _ rfl)
    rw [oX,if_pos (by rwa [jM] at j)]
    exact f.le n
  .intro m i E;refine rZ m E λl f s u=>?_
   exact iM (a5 rfl) (B _ _ _ l (ei c rfl f))
noncomputable def sortI (l:List Int):List Int:=l.mergeSort (λa b=>decide (a<=b))
theorem sortI_perm (l:List Int):(sortI l).Perm l:=wI _ _
theorem sI (l:List Int):(sortI l).Pairwise (·<=·):=(tK (le:=λa b:Int=>decide (a<=b)) (λa b c d e=>decide_eq_true (jD (of_decide_eq_true d) (of_decide_eq_true e))) (λa b=>by
 rw [j1,decide_eq_true_iff,decide_eq_true_iff];exact S2 a b) l).imp λh=>of_decide_eq_true h
theorem MZ (a:a8.Nodup):(sortI a8).Pairwise (·<·):=
 (uZ.mpr ⟨sI a8,(sortI_perm a8).symm.nodup a⟩).imp λh=>Int.lt_iff_le_and_ne.mpr h
theorem ip:p∈sortI a8↔p∈a8:=(sortI_perm a8).mem_iff
theorem DW:∀{u w:g9} (p:List AV),u<w->Lt (.tup (p++u.map .int)) (.tup (p++w.map .int))
 |[],[],p,h=>absurd h (oe _)
 |[],y::w,p,h=>by rw [pC,eR];exact .len p (.int y) _
 |x::u,[],p,h=>absurd h (OC _)
 |x::u,y::w,p,h=>by
  rcases G2.mp h with a |⟨e,a⟩
  .exact .tup p (.int x) (.int y) _ _ (.int a)
  .clear h;subst e
   have:=DW (p++[.int x]) a
   rwa [eC,eC] at this
variable {bj cM:Row}
theorem RI (h:bj.1<cM.1):Lt (ie bj) (ie cM):=.tup [] _ _ _ _ (DW [] h)
theorem DX (n:Nat) (w:g9):oN (n+1) (tI w):=.tup _ _ λx a=>by
 refine iQ x (ck.mp a) λi _=>?_;exact .int _ i
theorem PJ (r:Row):oN 4 (ie r):=.tup _ _ λx a=>by
 cases a with
 |head=>exact DX 2 _
 |tail _ a=>
  cases a with
  |head=>exact .int _ _
  |tail _ a=>exact (ee a).elim
theorem AZ (k:∀n:List AV->Prop,n j->pg b n l) (m:j.length<=5) (i:qY j) (d:aN.Perm j) (f:aN.Pairwise λa g=>Lt a g\/a=g) (h:∀c,b.free c->n (.ref c) (b.set c (.list aN))):Il 1 [l] b n:=
 .mk (k _ ⟨(c4 m (by decide)),i,(d.pairwise (f.imp λh=>h.elim .inl λe=>.inr (.inl e)) (λh=>h.elim (λh=>.inr (.inr h)) λh=>h.elim (λh=>.inr (.inl h.symm)) .inl)),aN,d,f,h⟩)
theorem sJ (j:∀Q:List AV->Prop,Q (a8.map .int)->pg b Q l) (n:a8.length<=5):Cl (eE PG (a+1)) (.bi 1) [l] b (gN b ((sortI a8).map .int)):=λQ g=>
 jI (AZ j (by rwa [bb]) (.inl λx f=>by refine iQ x (ck.mp f) λi _=>?_;exact (oJ i rfl)) ((sortI_perm a8).map _)
  (gh.mpr ((sI a8).imp λ{m k} h=>(Int.lt_or_eq_of_le h).elim (λh=>.inl (.int h)) λe=>.inr (congrArg _ e))) λc d=>g _ _ (mU d.1) (ei c rfl ((fM d).own (ec _))))
variable {aQ:List Row}
theorem A0 (m:∀Q:List AV->Prop,Q (a7.map ie)->pg b Q l) (n:a7.length<=5) (g:aQ.Perm a7) (i:aQ.Pairwise λk j=>k.1<j.1):Cl (eE PG (a+1)) (.bi 1) [l] b (gN b (aQ.map ie)):=λQ f=>
 jI (AZ m (by rwa [bb]) (.inr λx e=>by refine iQ x (ck.mp e) λr _=>?_;exact ⟨(PJ r),_,_,rfl⟩) (g.map _)
  (gh.mpr (i.imp λh=>.inl (RI h))) λc d=>f _ _ (mU d.1) (ei c rfl ((fM d).own (ec _))))
theorem pZ (m:Al (eE PG (a+1)) e b g (gN b j)) (h:∀d,eD b d->n (.tup j) d):Al (eE PG (a+1)) e b (.call (.cst (.bi 5)) (.cons g .nil)) n:=
 xB m λv o l k=>by
  refine jj v k λc i=>?_
  exact λQ f=>jI (.mk (.mk i.at_ (f _ _ (ec _) (h _ l))))
theorem M0 (m:Al (eE PG (a+1)) e b g (gN b (dq.map λy=>.bool (e9 y)))) (i:∀d,eD b d->n (.bool (dq.any e9)) d):Al (eE PG (a+1)) e b (.call (.cst (.bi 7)) (.cons g .nil)) n:=
 xB m λv o l k=>by
  refine jj v k λc j=>?_
  exact λQ f=>jI (.mk (.mk j.at_ (ei (dq.map e9) (by rw [er];rfl) (f _ _ (ec _) (by rw [List.any_map];exact i _ l)))))
theorem gN.mono (a:eD b ax) (h:gN ax j l q):gN b j l q:=eS h λc e h=>⟨c,e,h.at_,jE a h.fr⟩
theorem Kg (n:Al (eE PG (a+1)) e b g (gN b (a7.map ie))) (m:a7.length<=5) (d:aQ.Perm a7) (f:aQ.Pairwise λj i=>j.1<i.1):Al (eE PG (a+1)) e b (.call (.cst (.bi 1)) (.cons g .nil)) (gN b (aQ.map ie)):=
 xB n λv p o l=>by
  refine jj v l λc k=>?_
  exact uP (A0 (f7 k.at_) m d f) λv s _ h=>h.mono o
variable {dU:List (Int×Nat×List h)}
section
section
variable {γ:Type}
noncomputable def strip (E:List (Int×Nat×List γ)):List (Int×List γ):=E.map λe=>(e.1,e.2.2)
noncomputable def KW (E:List (Int×Nat×List γ)):List (AV×AV):=E.map λe=>(.int e.1,.ref e.2.1)
structure ML (f:γ->AV) (s0 st:AS) (d:Nat) (E:List (Int×Nat×List γ)):Prop where
 dict:st d=some (.dict (KW E))
 fr:s0 d=none
 ls:∀e∈E,st e.2.1=some (.list (e.2.2.map f))/\s0 e.2.1=none
 nd:(E.map λe=>e.2.1).Nodup
noncomputable def FL (s0 st:AS) (p:Nat):Prop:=∀b o,b≠p->s0 b=some o->st b=some o
noncomputable def Yo (s0 a b:AS):Prop:=∀x o,s0 x=some o->b x=a x
noncomputable def xG:List (Int×List γ)->Int->γ->List (Int×List γ)
 |[],k,x=>[(k,[x])]
 |p::T,k,x=>if p.1=k then (p.1,p.2++[x])::T else p::xG T k x
theorem CM {q:Int×List h} {T:List (Int×List h)}:xG (q::T) p dp=if q.1=p then (q.1,q.2++[dp])::T else q::xG T p dp:=rfl
theorem FN {b:List (Int×List h)}:∀{T:List (Int×List h)},p∉T.map (·.1)->xG (T++(p,dq)::b) p dp=T++(p,dq++[dp])::b:=by
 intro d
 induction d with
 |nil=>
  intro _
  exact if_pos rfl
 |cons f T c=>
  intro a
  rw [eG,eK,not_or] at a
  exact (if_neg λe=>a.1 e.symm).trans (congrArg _ (c a.2))
theorem FO:∀{T:List (Int×List h)},p∉T.map (·.1)->xG T p dp=T++[(p,[dp])]:=by
 intro c
 induction c with
 |nil=>
  intro _
  exact rfl
 |cons d T b=>
  intro a
  rw [eG,eK,not_or] at a
  exact (if_neg λe=>a.1 e.symm).trans (congrArg _ (b a.2))
theorem yA {E:List (Int×h)} (i:p∈E.map (·.1)):∃b a c,E=b++(p,a)::c/\p∉b.map (·.1):=by
 induction E with
 |nil=>contradiction
 |cons e E f=>
  by_cases d:e.1=p
  .exact ⟨[],e.2,E,congrArg (λz=>(z,e.2)::E) d,ee⟩
  .exact yb (f ((eK.mp i).resolve_left λe=>d e.symm)) λb a c q g=>⟨(e::b),a,c,congrArg (e::·) q,(λq=>(eK.mp q).elim (λq=>d q.symm) g)⟩
theorem rh (E:List (Int×Nat×List h)):(strip E).map (·.1)=E.map (·.1):=by unfold strip;rw [er];rfl
theorem uR (E:List (Int×Nat×List h)):(KW E).map (·.1)=(E.map (·.1)).map .int:=by unfold KW;rw [er,er];rfl
theorem xH (E:List (Int×Nat×List h)):IntKeys (KW E):=λp a=>by
 refine iQ p (ck.mp a) λq _=>?_;exact ⟨q.1,rfl⟩
theorem qI:AV.int p∈a8.map AV.int↔p∈a8:=⟨λh=>by
 refine eS (ck.mp h) λj a e=>?_
 (injection e with e;subst e);exact a,λh=>ck.mpr (ei p h rfl)⟩
theorem ML.le (c:ML dE b q a dU) (d:eD q ax):ML dE b ax a dU:=⟨d _ _ c.dict,c.fr,λe f=>⟨d _ _ (c.ls e f).1,(c.ls e f).2⟩,c.nd⟩
theorem ML.same (c:ML dE b q a dU) (g:∀d,b d=none->ax d=q d):ML dE b ax a dU:=⟨(g _ c.fr).trans c.dict,c.fr,λe f=>⟨(g _ (c.ls e f).2).trans (c.ls e f).1,(c.ls e f).2⟩,c.nd⟩
theorem ML.grow {x:h} {k:List (Int×Nat×List h)} (c:ML dE b q a (dU++(p,d,dq)::k)) (u:Upd q ax d (.list ((dq++[x]).map dE))):ML dE b ax a (dU++(p,d,dq++[x])::k):=by
 have j:=c.ls (p,d,dq) (by simp)
 have i:=c.nd
 rw [b_,eG,eP,eT] at i
 refine ⟨?_,c.fr,λe l=>?_,?_⟩
 .rw [u.ne a λg=>by have:=c.dict;rw [g,j.1] at this;(injection this;contradiction)]
  have:=c.dict
  unfold KW at this⊢
  rw [b_,eG] at this⊢;exact this
 .rcases eF.mp l with f |f
  .have:=c.ls e (fQ _ f)
   exact ⟨(u.ne _ λg=>i.2.2 _ (fC f) d (.head _) g).trans this.1,this.2⟩
  .clear l;rcases eK.mp f with rfl |f
   .exact ⟨u.at_,j.2⟩
   .have:=c.ls e (fS _ (.tail _ f))
    exact ⟨(u.ne _ λg=>i.2.1.1 (ck.mpr (ei e f g))).trans this.1,this.2⟩
 .have:=c.nd
  rw [b_,eG] at this⊢;exact this
theorem I1 {P:h->AS->Prop} (s:ML dE b q a dU) (T:∀c,q c=none->b c=none) (H:dU.length<fE) (kq:∀f∈dU,f.2.2.length<fE) (J:Ev i e q g (.ref a)) (S:Ev i e q D (.int p)) (N:∀j,FL q j a->∀Q:AV->AS->Prop,(∀d m,(∀k,b k=none->m k=j k)->P d m->Q (dE d) m)->VE PG i aL e j Q) (R:∀d O m I,P d m->Yo b m I->ML dE b I a O->strip O=xG (strip dU) p d->jo PG i ah e I ag):
 jo PG i (.cons (.ex (.fL (.fL g 2 (.cons D (.cons (.lst .nil) .nil))) 0 (.cons aL .nil))) ah) e q ag:=by
 have W:∀j ah l v y,FL q j a->ML dE b j a (v++(p,ah,l)::y)->l.length<fE->(∀d,strip (v++(p,ah,l++[d])::y)=xG (strip dU) p d)->
  yd PG i 0 j (λK=>Io PG i (.cons aL .nil) e j K) (λ_ q=>Nx i ‹w'› ag .next e q) (.ref ah):=by
  intro j ah l v y G t hl Y
  have C:=t.ls (p,ah,l) (by simp)
  refine .list C.1 (.inl rfl) (N j G _ λd m V hp=>(ei _ ((V ah C.2).trans C.1) (.app (by rw [bb];exact hl) (R d _ m _ hp (λk E f=>gv λn=>?_) ((t.same V).grow (x:=d) ⟨?_,λk u=>gv u⟩) (Y d)))))
  .rw [n,C.2] at f;contradiction
  .rw [gW,b_];rfl
 refine J _ (.dict s.dict (.inr rfl) (S _ λc w=>?_))
 have z:=fM (ay:=.list []) w
 have t:=s.le z.le
 have M:b c=none:=T c w.1
 have U:FL q (q.set c (.list [])) a:=λk E _ f=>z.le k E f
 refine ei _ t.dict (.Tg (xH _) ?_)
 by_cases A:p∈dU.map (·.1)
 .clear s T H J S N R w z M;refine yb (yA A) λv kl y kn X=>?_;clear A;obtain ⟨B,F⟩:=kl;subst kn
  refine .inl (ei (.ref B) (ck.mpr ⟨(p,B,F),by simp,rfl⟩) (W _ B F v y U t (kq (p,B,F) (by simp)) λd=>?_))
  unfold strip
  rw [b_,eG,b_,eG,FN]
  rw [er];exact X
 .refine .inr (iz (by rw [uR,qI];exact A) (by unfold KW;rw [bb];exact H) ?_)
  have km:c≠a:=λn=>by have:=s.dict;rw [<-n,w.1] at this;contradiction
  refine W _ c [] dU [] (λk E u f=>(gv u).trans (U k E u f)) ⟨?_,s.fr,λf r=>?_,?_⟩ (c4 (ft _) H) λd=>?_
  .rw [gW];unfold KW;rw [b_];rfl
  .rcases eF.mp r with r |r
   .have:=t.ls f r
    exact ⟨(gv λn=>by have L:=this.1;rw [n,t.dict] at L;(injection L;contradiction)).trans this.1,this.2⟩
   .cases dk.mp r
    exact ⟨(gv km).trans z.at_,M⟩
  .rw [b_,eP]
   refine iz s.nd (eT.mpr ⟨ee,eI⟩) (λZ G k u=>?_)
   refine iQ Z (ck.mp G) λf r=>?_
   cases dk.mp u
   exact λn=>by have:=(s.ls f r).1;rw [n,w.1] at this;contradiction
  .rw [FO (by rw [rh];exact A)]
   unfold strip;rw [b_];rfl
end
end
structure QI (st:AS) (p N cl k v:Nat) (cs:List Int):Prop where
 obj:st p=some (.list [.ref cl,.int k,.int v])
 cells:st cl=some (.list (cs.map .int))
 ne:cl≠p
 pos:0<cs.length
 le:k<=N
inductive xI (st:AS) (p cl N:Nat):Prop where
 |mk (k v:Nat) (cs:List Int) (h0:QI st p N cl k v cs):xI st p cl N
theorem xI.mono (h:xI b a d o) (j:o<=I):xI b a d I:=let ⟨k,v,cs,g,f,c,i,e⟩:=h;⟨k,v,cs,g,f,c,i,a_ e j⟩
theorem xI.keep (h:xI b a d o) (f:eD b q):xI q a d o:=let ⟨k,v,cs,i,g,c,j,e⟩:=h;⟨k,v,cs,f _ _ i,f _ _ g,c,j,e⟩
noncomputable def BY (st st':AS) (p:Nat):Prop:=∀b,b≠p->st' b=st b
theorem A3 (o:Ev i e b aL l) (f:Ev i e b g (.ref a)) (m:b a=some (.list j)) (k:Ev i e b D (.int d)) (n:d<j.length) (h:∀c,Upd b c a (.list (j.set d l))->jo PG i ah e c ag):
 jo PG i (.cons (.t7 g D aL) ah) e b ag:=o _ (f _ (k _ (.list m (gC d) n (h _ pq))))
theorem HA (h:Ev i e b g (.int p)) (a:Ev i e b D (.int aB)) (c:p.natAbs<2 ^ 60\/aB.natAbs<2 ^ 60):Ev i e b (.bin .mul g D) (.int (p*aB)):=ia h a (if_pos c)
theorem I2 (b:0<a):¬(a:Int)=0:=λq=>oy b (rB q)
theorem M7 (h:Ev i e b g (.int a)) (c:Ev i e b D (.int d)) (f:0<d):Ev i e b (.bin .mod g D) (.int (a % d:Nat)):=ia h c (by
 show (if (d:Int)=0 then none else some (Int.fmod a d))=_
 rw [if_neg (I2 f),Int.ofNat_fmod])
theorem PK (h:Ev i e b g (.int a)) (c:Ev i e b D (.int d)) (f:0<d) (j:d<1000000):Ev i e b (.bin .fdiv g D) (.int (a / d:Nat)):=ia h c (by
 show (if (d:Int)=0\/1000000<=(d:Int).natAbs then none else some (Int.fdiv a d))=_
 rw [if_neg λq=>q.elim (I2 f) λq=>iY.mpr q j,Int.ofNat_fdiv])
theorem oY (K:xI b d o I) (F:I<100000) (u:0<ak) (J:ak<100) (l:∀z q,z<ak->xI q d o (I+1)->BY b q d->n (.int (z:Nat)) q):eE PG (a+4) (.fn 72) [.ref d,.int ak] b n:=by
 obtain ⟨e,v,cs,c⟩:=K
 refine gO [some (.ref d),some (.int ak),none,none] (c_ 2 _) rfl rfl ?_
 have B:∀(e v:Nat) (w:Option AV) g,QI g d (I+1) o e v cs->BY b g d->jo PG (eE PG (a+3)) (.cons (.asg 3 (.bin .mod (.sub (.var 0) (.cst (.int 2))) (.var 1))) (.cons (.t7 (.var 0) (.cst (.int 2)) (.bin .fdiv (.sub (.var 0) (.cst (.int 2))) (.var 1))) (.cons (.ret (.var 3)) .nil)))
  [some (.ref d),some (.int ak),w,none] g (λG _ q=>∃y,eD y q/\n (y8 G) y):=λe v w g h D=>by
  refine g8 (M7 (fq (d:=2) (a5 rfl) h.obj dt rfl) (a5 rfl) u) ?_
  refine A3 (d:=2) (PK (fq (d:=2) (a5 rfl) h.obj dt rfl) (a5 rfl) u (gF J (by decide))) (a5 rfl) h.obj dt (fG 2) λs j=>?_
  refine iM (a5 rfl) (ei _ (ec _) (l _ s (U8 _ u) ⟨e,v / ak,cs,j.at_,(j.ne _ h.ne).trans h.cells,h.ne,h.pos,h.le⟩ λp f=>(j.ne p f).trans (D p f)))
 refine ki (f9 (fU (fq (d:=2) (a5 rfl) c.obj dt rfl) dt (eq_int rfl))) (λ_=>?_) λ_=>B e v _ b ⟨c.obj,c.cells,c.ne,c.pos,fY c.le⟩ λp f=>rfl
 have H:=U8 e c.pos
 have E:(cs.map AV.int)[e % cs.length]? =some (.int cs[e % cs.length]):=by rw [ed,df H];rfl
 have L:Ev (eE PG (a+3)) [some (.ref d),some (.int ak),none,none] b (.call (.cst (.bi 0)) (.cons (.sub (.var 0) (.cst (.int 0))) .nil)) (.int cs.length):=by
  have:=jd (a:=a+2) (e:=[some (.ref d),some (.int ak),none,none]) (fq (d:=0) (a5 (a:=0) rfl) c.obj dt rfl) (f7 c.cells)
  rwa [bb] at this
 refine g8 (fq (fq (d:=0) (a5 rfl) c.obj dt rfl) c.cells (M7 (fq (d:=1) (a5 rfl) c.obj dt rfl) L c.pos) E) ?_
 refine A3 (d:=1) (ia (fq (d:=1) (a5 rfl) c.obj dt rfl) dt rfl) (a5 rfl) c.obj dt (eh (fG 1) (v3 2)) λg j=>?_
 have A:g d=some (.list [.ref o,.int (e+1:Nat),.int v]):=j.at_
 obtain ⟨r,C⟩:∃r:Nat,Ev (eE PG (a+3)) [some (.ref d),some (.int ak),some (.int cs[e % cs.length]),none] g (.ite (.cmp (.var 2) .lt (.cst (.int 0))) (.cst (.int 1)) (.cst (.int 0))) (.int r):=by
  by_cases f:cs[e % cs.length]<0
  .exact oJ 1 (λn l=>f9 (fU (a5 rfl) dt (n0 (decide_eq_true f).symm)) _ l)
  .exact oJ 0 (λn l=>f9 (fU (a5 rfl) dt (n0 (decide_eq_false f).symm)) _ l)
 have x:Ev (eE PG (a+3)) [some (.ref d),some (.int ak),some (.int cs[e % cs.length]),none] g (.sub (.var 0) (.cst (.int 1))) (.int (e+1:Nat)):=fq (d:=1) (a5 rfl) A dt rfl
 refine A3 (d:=2) (ia (ia (ia (HA dt (xx dt (iJ (a5 rfl)) λn l=>jI (.mk (.mk l))) (.inl (by decide))) C rfl) (HA (HA dt x (.inl (by decide))) x (.inr ?_)) rfl) dt rfl) (a5 rfl) A dt (fG 2) λs t=>s_end (B (e+1) (2*cs[e % cs.length].natAbs+r+7919*(e+1)*(e+1)+1) _ s ⟨t.at_,(t.ne _ c.ne).trans ((j.ne _ c.ne).trans c.cells),c.ne,c.pos,fg c.le⟩ λp f=>(t.ne p f).trans (j.ne p f))
 exact c4 (fg c.le) (gF (ox F) (by decide))
noncomputable abbrev Table:=List (Int×List Row)
noncomputable def DY (w:g9):Prop:=∀g∈w,1<=g/\g<=5
structure QJ (r:Row):Prop where
 gl:DY r.1
 len:r.1.length<=3
 HE:10<=r.2
structure vn (T:Table) (N:Nat):Prop where
 keys:(T.map (·.1)).Nodup
 gl:DY (T.map (·.1))
 rows:∀p∈T,∀r∈p.2,QJ r
 KX:(T.map λp=>p.2.length).sum<=N
 ne:∀p∈T,0<p.2.length
theorem yB (k:Int) (x:h):∀T:List (Int×List h),(xG T k x).map (·.1)=if k∈T.map (·.1) then T.map (·.1) else T.map (·.1)++[k]:=by
 intro T
 induction T with
 |nil=>rfl
 |cons p T c=>
  show (if p.1=k then _ else _:List (Int×List h)).map (·.1)=_
  by_cases b:p.1=k
  .rw [if_pos b,if_pos (by rw [<-b];exact .head _)];rfl
  .rw [if_neg b]
   show p.1::(xG T k x).map (·.1)=if k∈p.1::T.map (·.1) then p.1::T.map (·.1) else (p.1::T.map (·.1))++[k]
   rw [c]
   clear c;by_cases a:k∈T.map (·.1)
   .rw [if_pos a,if_pos (.tail _ a)]
   .rw [if_neg a,if_neg λq=>(eK.mp q).elim (λq=>b q.symm) a];rfl
theorem vo:∀{T:List (Int×List h)} {e},e∈xG T p dp->e∈T\/(e.1=p/\∃l,e.2=l++[dp]/\(l=[]\/(p,l)∈T)):=by
 intro i
 induction i with
 |nil=>
  intro e d
  cases dk.mp d;exact .inr (tP rfl [] rfl (.inl rfl))
 |cons q T g=>
  intro e d
  rw [CM] at d
  by_cases f:q.1=p
  .rw [if_pos f] at d
   rcases eK.mp d with rfl |d
   .exact .inr (tP f q.2 rfl (.inr (by rw [<-f];exact .head _)))
   .exact .inl (.tail _ d)
  .rw [if_neg f] at d
   clear f;rcases eK.mp d with rfl |d
   .exact .inl (.head _)
   .rcases g d with d |⟨a,l,b,c⟩
    .exact .inl (.tail _ d)
    .exact .inr (tP a l b (c.imp id (.tail _)))
theorem FP (k:Int) (x:h):∀T:List (Int×List h),((xG T k x).map λp=>p.2.length).sum=(T.map λp=>p.2.length).sum+1:=by
 intro c
 induction c with
 |nil=>
  exact rfl
 |cons p T b=>
  rw [CM]
  by_cases a:p.1=k
  .rw [if_pos a,eG,jC,eG,jC,bh]
   exact gZ _ _ _
  .rw [if_neg a,eG,jC,eG,jC,b];rfl
variable {aU:Table}
theorem vn.add (h:vn aU a) (m:1<=p/\p<=5) (k:QJ bj):vn (xG aU p bj) (a+1) where
 keys:=by
  rw [yB]
  split
  .exact h.keys
  .rename_i n
   exact eP.mpr ⟨h.keys,eT.mpr ⟨ee,eI⟩,λs r b o q=>n (by rw [<-dk.mp o,<-q];exact r)⟩
 gl:=by
  rw [yB]
  split
  .exact h.gl
  .exact λg j=>(eF.mp j).elim (h.gl g) λj=>by rw [dk.mp j];exact m
 rows f c q d:=by
  clear m;rcases vo c with c |⟨rfl,l,e,i⟩
  .exact h.rows f c q d
  .rw [e] at d
   clear c e;rcases eF.mp d with d |d
   .clear k;rcases i with rfl |i
    .exact (ee d).elim
    .exact h.rows _ i q d
   .rw [dk.mp d];exact k
 KX:=by rw [FP];exact fg h.KX
 ne f c:=by
  rcases vo c with c |⟨_,l,e,_⟩
  .exact h.ne f c
  .rw [e,bh];exact fz _
theorem FL.le (h:FL b q a) (f:eD q ax):FL b ax a:=λd o c e=>f _ _ (h d o c e)
theorem FL.same (h:FL b q a) (f:BY q ax a):FL b ax a:=λd o c e=>(f d c).trans (h d o c e)
theorem wu (a:Ev i e b g l) (h:VE PG i D e b λw b=>Aj b n bM l w):VE PG i (.bin bM g D) e b n:=a _ h
theorem jJ (h:VE PG i g e b λv b=>i l [v] b n):VE PG i (.call (.cst l) (.cons g .nil)) e b n:=h
theorem tB (c:d<=1000000) (h:n (.pT 0 d 1) b):eE PG (a+1) (.bi 4) [.int d] b n:=jI (ei [(d:Int)] rfl (.one ⟨ft _,c,h⟩))
theorem p3 (c:bH .pT ((eQ a).map λk=>.int (k:Nat))):oh b bH (.pT 0 a 1):=tu (a:=0) (by
 rw [show xy 0 a=(eQ a).map λk=>.int (k:Nat) by
  unfold xy;rw [Nat.sub_zero];exact fk λk _=>by rw [iW]]
 exact c)
theorem zl (E:xI b a d o) (u:o+I<100000) (m:∀x:AV,∃p,jN C x e=some p/\∀f (n:AV->AS->Prop) t,xI f a d t->t<100000->(∀h B,h<5->xI B a d (t+1)->BY f B a->n (.int (1+(h:Nat))) B)->VE PG i g p f n) (T:∀w l k c,w.length=I->DY w->xI l a d (o+I)->BY b l a->sg l k c (.list (w.map .int))->n (.ref c) k):FH i g C .nil .nil e n (.pT 0 I 1) b:=by
 refine tv .pT (eQ I) (λI=>.int (I:Nat)) (λn=>p3) (λh A f=>∃w:g9,A=w.map .int/\w.length=h.length/\DY w/\xI f a d (o+h.length)/\BY b f a) ⟨[],rfl,rfl,(by (repeat intro _);contradiction),E,(λ_ _=>rfl)⟩ (λ_ _ _ _=>trivial) ?_ ?_
 .intro h y U A f L N K M;refine zT N λw v j z q s=>?_;subst v
  refine eS (m (.int (y:Nat))) λp R Q=>?_
  have G:h.length<I:=by
   have:=congrArg fi L
   rw [fc,bh] at this
   rw [this];exact gj (fz _)
  refine ei p R (Q f _ _ q (c4 (d5 (eA G) _) u) λH k O P S=>⟨?_,M _ _ ⟨w++[1+(H:Int)],?_,?_,?_,?_,λF m=>(S F m).trans (s F m)⟩⟩)
  .rw [bb,j]
   exact eh (gF (eh G (c_ _ _)) u) (eJ _)
  .rw [b_];rfl
  .rw [bh,bh,j];rfl
  .refine λx r=>(eF.mp r).elim (z x) λr=>?_
   rw [dk.mp r];exact Ta O
  .rw [bh];exact P
 .intro A l k c D J;refine zT D λw v j z q s=>?_;clear E u m D;subst v
  rw [fc] at j q
  exact T w l k c j z q s J
theorem je (h:VE PG i g e b λv b=>jo PG i ah (e.set a (some v)) b ag):jo PG i (.cons (.asg a g) ah) e b ag:=h
theorem A4 (h:VE PG i g e b λv a=>MW i C bg ah ag e v a):jo PG i (.cons (.kg C g bg) ah) e b ag:=h
theorem zY (h:VE PG i D e b λv a=>FH i g C ar bD (bz.map λc=>c.bind λj=>(e[j]?).join) n v a):
 VE PG i (.comp bz g C D ar bD) e b n:=h
theorem tuple_list (c:b d=some (.list j)) (h:n (.tup j) b):eE PG (a+1) (.bi 5) [.ref d] b n:=jI (.mk (.mk c h))
noncomputable def Kx (K:MM->AS->Prop) (T:Fl->MM->AS->Prop):Fl->MM->AS->Prop:=λfl m st=>match fl with | .next=>K m st |fl=>T fl m st
theorem yC {s:CS} (J:MM->AS->Prop) (h:∀K:MM->AS->Prop,(∀e b,J e b->K e b)->VS PG i s e b (Kx K ag)) (a:∀e b,J e b->jo PG i ah e b ag):jo PG i (.cons s ah) e b ag:=h _ a
theorem yD (h:VT PG i g (VE PG i g) e b λt b=>if t then jo PG i ah e b ag else jo PG i bg e b ag):VS PG i (.iff g ah bg) e b ag:=h
theorem Uc {W:MM->AS->(AV->AS->Prop)->Prop} (a:Tv i e b g aw) (d:aw=true->VT PG i D (VE PG i D) e b bK) (c:aw=false->bK false b):VT PG i (.and g D) W e b bK:=a _ (by
 clear a;induction aw with
 |true=>exact d rfl
 |false=>exact c rfl)
theorem RJ (h:VE PG i g e b λv b=>VE PG i D e b λw b=>pV b (λr=>∃t,nM b (.bool r) t/\bK t b) bI v w):VT PG i (.cmp g bI D) (VE PG i (.cmp g bI D)) e b bK:=h
theorem M8 (c:Ev i e b g l) (a:VE PG i D e b λw b=>n (.tup [l,w]) b):VE PG i (.tup (.cons g (.cons D .nil))) e b n:=c _ a
theorem A5:∀{l:List Nat},a∈l->a<=l.sum
 |y::l,h=>by
  rw [jC]
  exact (eK.mp h).elim (λh=>h▸eg _ _) λh=>a_ (A5 h) (c_ _ _)
theorem vR (hp:xI b d o I) (T:I+100<100000) (hQ:∀r E p,FL b p d->xI p d o (I+36)->ML ie b p r E->vn (strip E) 5->n (.ref r) p):eE PG (a+7) (.fn 73) [.ref d] b n:=by
 have V:∀c,b c=none->c≠d:=λc W q=>by
  obtain ⟨J,i,cs,h⟩:=hp
  rw [q,h.obj] at W;contradiction
 refine gO [some (.ref d),none,none,none,none] (c_ 2 _) rfl rfl ?_
 refine zk λB lH M=>g8 (l:=tI []) (g5 gP) (A4 (jJ (g6 dt (iL (a5 rfl) dt) (oY (ak:=6) (hp.keep M.le) (c4 (eg I 100) T) (by decide) (by decide) λJ lJ Z kY kH=>tB (a:=a+5) (eA (gF Z (by decide))) ?_))))
 have lq:=V B M.fr
 refine iG .pT (eQ J) (λJ=>.int (J:Nat)) (λn=>p3) (λr m p=>FL b p d/\xI p d o (I+1+7*r.length)/\(∃E,ML ie b p B E/\vn (strip E) r.length)/\∃(C:g9) (w3 w4:Option AV),DY C/\C.length<=4/\m=[some (.ref d),some (.ref B),some (tI C),w3,w4])
  ⟨(λf z l e=>(kH f l).trans (M.le _ _ e)),kY,⟨[],⟨(kH _ lq).trans M.at_,M.fr,(by intros;contradiction),eI⟩,⟨eI,(by (repeat intro _);contradiction),(by intros;contradiction),eJ _,(by intros;contradiction)⟩⟩,[],_,_,(by (repeat intro _);contradiction),(ft _),rfl⟩ (λ_ _ _ _=>trivial) ?_ ?_
 .intro r y r' m kJ e lz K S;refine Ag m lz λkq Y G C w3 w4 N lA=>?_;refine eS G λE hE A=>?_
  have R:r.length<5:=by
   have:=congrArg fi e
   rw [fc,bh,e_] at this
   exact eh (UM this) (eX Z)
  refine ei _ rfl (je (jJ (zY (jJ (wu dt (g6 dt (iL (a5 rfl) dt) (oY (ak:=4) Y (by exact V9 (o:=0) T R (by decide)) (by decide) (by decide) λq lL H kU kz=>.int rfl (tB (a:=a+5) (d:=1+q) (by exact a_ (d5 (eA H) 1) (by decide)) ?_))))))))
  refine zl kU (by exact V' T R H) (λx=>(ei _ rfl (λp n N' lu kT lF=>wu dt (g6 dt (iL (a5 rfl) dt) (oY (ak:=5) lu kT (by decide) (by decide) λr s ly f c=>.int rfl (lF r s ly f c)))))) λu lI kP c X kn kZ kO km=>tuple_list km.at_ ?_
  have kx:u≠[]:=λq=>by rw [q,qK] at X;exact absurd (X.trans (eY _ _)) (tW _).symm
  have kG:FL b kP d:=((kq.same kz).same kO).le km.le
  have kD:ML ie b kP B E:=((hE.same λf l=>kz f (V f l)).same λf l=>kO f (V f l)).le km.le
  have kB:=kZ.keep km.le
  refine yC (λm p=>∃(i:g9) (y:AV),m=[some (.ref d),some (.ref B),some (tI C),some y,some (tI i)]/\i≠[]/\i.length<=4/\DY i/\FL b p d/\xI p d o (I+1+7*r.length+6)/\ML ie b p B E) (λK S=>yD (Uc (f9 (MX (bS:=[]) (a5 rfl) (g5 gP))) (λhw=>?_) λ_=>S _ _ ⟨u,_,rfl,kx,(by exact n1 X (Vf H)),kn,kG,(kB.mono (by exact W0 H)),kD⟩)) ?_
  .refine RJ (g6 dt (iL (a5 rfl) dt) (oY (ak:=3) kB (by exact V' T R H) (by decide) (by decide) λt Q ht kl kF=>eq_int rfl _ (ei _ (.bool _) ?_)))
   have h7:FL b Q d/\xI Q d o (I+1+7*r.length+6)/\ML ie b Q B E:=iz (kG.same kF) (kl.mono (by exact W3 H)) (kD.same λf l=>kF f (V f l))
   induction decide (((t:Nat):Int)=0) using j5 with
   |false=>exact S _ _ (qW u _ rfl kx (by exact n1 X (Vf H)) kn h7)
   |true=>
    refine g8 (l:=tI (C.take 3++u.take 1)) (λn hQ=>AN (rf (a:=3) (a5 rfl) dt) (rf (a:=1) (a5 rfl) dt) (by simp only [bb,fR];unfold fE;exact a_ (fO (g7 _ _) (g7 _ _)) (by decide)) _ (by rw [<-b_];exact hQ)) (S _ _ (qW (C.take 3++u.take 1) _ rfl (λq=>?_) ?_ (λg U=>(eF.mp U).elim (λh=>N g (qr h)) λh=>kn g (qr h)) h7))
    .induction u using ej with
     |nil=>exact kx rfl
     |cons g u=>simp at q
    .simp only [bh,fR];exact fO (g7 _ _) (g7 _ _)
  .intro m Q kX;refine Ah kX λi y G lr kM ky kK kl ku=>?_;subst G
   refine qX (gf lr) λg i G=>?_;subst G
   have lE:=ky g (.head _)
   have lx:∀e∈E,e.2.2.length<fE:=λe he=>c4 (a_ (A5 (ck.mpr (ei (e.1,e.2.2) (ck.mpr ⟨e,he,rfl⟩) rfl))) A.KX) (by unfold fE;exact gF R (by decide))
   have lC:E.length<fE:=by
    have:=A.keys.length_le_of_subset (l₂:=[1,2,3,4,5]) λg U=>by
     have:=A.gl g U
     simp only [eK,ee,or_false];exact Dm this
    unfold strip at this
    rw [bb,bb] at this
    exact c4 this (by unfold fE;decide)
   have lB:∀c,Q c=none->b c=none:=λc W=>by
    induction h:b c using d7 with
    |none=>rfl
    |some z=>
     by_cases kC:c=d
     .obtain ⟨J,i,cs,L⟩:=kl
      rw [kC,L.obj] at W;contradiction
     .rw [kK c z kC h] at W;contradiction
   refine g8 (a5 rfl) (I1 (P:=λ(x:Row) s=>x.1=i/\10<=x.2/\FL b s d/\xI s d o (I+1+7*r.length+7)) ku lB lC lx (a5 rfl) (pk (a:=0) (a5 rfl) dt rfl) (λkN F n D=>?_) λx E' kN lK D F kV lh=>S _ _ ⟨(λf z l e=>(F f z e).trans (D.2.2.1 f z l e)),?_,⟨E',kV,?_⟩,(g::i),_,_,ky,kM,rfl⟩)
   .have kW:∀f z,b f=some z->f≠B:=λf z e q=>by rw [q,M.fr] at e;contradiction
    have lj:xI kN d o (I+1+7*r.length+6):=by
     obtain ⟨J,i,cs,L,O,h3,h4,N⟩:=kl
     exact ⟨J,i,cs,F _ _ (λq=>by rw [q,ku.dict] at L;(injection L;contradiction)) L,F _ _ (λq=>by rw [q,ku.dict] at O;(injection O;contradiction)) O,h3,h4,N⟩
    refine M8 (AX (a:=1) (av:=g::i) (a5 rfl) dt) (wu dt (g6 dt (iL (a5 rfl) dt) (oY (ak:=3) lj (by exact V9 (o:=6) T R (by decide)) (by decide) (by decide) λt kQ ht lD kI=>.int rfl (D (i,10+(t:Int)) kQ (λf l=>kI f (V f l)) (uu rfl (by exact Int.le.intro t rfl) ?_ lD)))))
    exact λf z l e=>(kI f l).trans (F f z (kW f z e) (kK f z l e))
   .obtain ⟨k1,v1,Vg,L,O,h3,h4,N⟩:=D.2.2.2
    obtain ⟨k0,v0,lG,g1,g2,_⟩:=hp
    refine ⟨k1,v1,Vg,(F d _ g1).trans L,(F o _ g2).trans O,h3,h4,?_⟩
    rw [bh];exact N
   .rw [lh,bh]
    exact A.add lE ⟨by rw [D.1];exact λg U=>ky g (.tail _ U),by rw [D.1];exact gY kM,D.2.1⟩
 .intro m kJ lg;refine Ag m lg λkq Y G C w3 w4 N lA=>?_;refine eS G λE hE A=>?_
  rw [fc] at Y A
  exact iM (a5 rfl) (ei _ (ec _) (hQ B E kJ kq (Y.mono (by exact W4 Z)) hE ⟨A.keys,A.gl,A.rows,a_ A.KX (eX Z),A.ne⟩))
noncomputable abbrev Ent:=List (Int×Nat×List Row)
structure kj (st:AS) (d:Nat) (E:Ent):Prop where
 dict:st d=some (.dict (KW E))
 ls:∀e∈E,st e.2.1=some (.list (e.2.2.map ie))
variable {aK:Ent}
theorem kj.le (h:kj b a aK) (c:eD b q):kj q a aK:=⟨c _ _ h.dict,λe d=>c _ _ (h.ls e d)⟩
theorem ML.tab (h:ML ie b q a aK):kj q a aK:=⟨h.dict,λe c=>(h.ls e c).1⟩
noncomputable def jP (g:Int) (r:Row):Row:=(g::r.1,r.2)
noncomputable def j2 (T:Table):List Row:=T.flatMap λp=>(live p.2).map (jP p.1)
theorem rj (T:Table):(j2 T).length<=(T.map λp=>p.2.length).sum:=by
 induction T with
 |nil=>exact eJ _
 |cons p T a=>
  show (_++j2 T).length<=_
  rw [bh,bb,eG,jC]
  exact fO (xF _) a
theorem M9 (h:kj b a aK) (c:bH (.dict a ((KW aK).map (·.1))) (aK.map λe=>AV.int e.1)):oh b bH (.ref a):=vk h.dict (xH aK) (by
 have:(KW aK).map (·.1)=aK.map λe=>AV.int e.1:=by unfold KW;rw [er];rfl
 rw [this] at c⊢;exact c)
theorem yE {c:Int×Nat×List Row} (h:kj b a aK) (j:c∈aK) (f:Ev i e b g (.ref a)) (d:Ev i e b D (.int c.1)):Ev i e b (.sub g D) (.ref c.2.1):=sd f h.dict d (.inl ⟨⟨_,rfl⟩,xH aK⟩) (ck.mpr ⟨c,j,rfl⟩)
theorem vn.FQ (h:vn aU a) {p:Int×List Row} (b:p∈aU):p.2.length<=a:=a_ (A5 (ck.mpr (ei p b rfl))) h.KX
theorem mid {r:List h} (a:dq=dT++dp::r):dp∈dq:=by rw [a];exact fS _ (.head _)
theorem rD:∀{k:Nat},k<=5->k<fE:=λh=>c4 h (by unfold fE;decide)
theorem A6 (h:kj b d aK) (C:vn (strip aK) 5) (L:a7.Perm (j2 (strip aK))) (V:a7.Pairwise λkn kz=>kn.1<kz.1):Cl (eE PG (a+4)) (.fn 74) [.ref d] b (gN b (a7.map ie)):=by
 have ku:a7.length<=5:=by rw [L.length_eq];exact a_ (rj _) C.KX
 refine jO [some (.ref d),none,none,none,none,none] (c_ _ _) rfl rfl λk G R hR=>?_
 (injection G with G;subst G)
 refine sG gP λc kF A=>?_
 refine oR (a5 rfl) (iG (.dict d _) aK (λe=>.int e.1) (λQ=>M9 (h.le A.le)) (λD m j=>eD b j/\i0 b j c (.list ((j2 (strip D)).map ie))/\∃I B n l,m=[some (.ref d),some (.ref c),I,B,n,l]) (uw A.le (A.own (ec _)) _ _ _ _ rfl) (λD m j z=>(ei _ (z.1 _ _ h.dict) rfl)) ?_ ?_)
 .intro D e r' m ky P kq K hK;refine wY m kq λp y I B n l=>?_
  have u:=mid P
  have kB:(e.1,e.2.2)∈strip aK:=ck.mpr (ei e u rfl)
  have O:∀f:List Row,(∃H,e.2.2=f++H)->((j2 (strip D))++(live f).map (jP e.1)).length<=5:=λf U=>j_ U λH Z=>by
   refine a_ ?_ C.KX
   rw [P]
   unfold strip
   rw [b_,b_,qJ,eG,eG,jC,bh,bb,Z,bh]
   exact fO (rj _) (a_ (xF _) (a_ (eg _ _) (eg _ _)))
  refine ei _ rfl (sG gP λw km t=>?_)
  have N:=h.le (b4 p t.le)
  have M:c≠w:=t.ne y.at_
  refine oR (yE N u (a5 rfl) (a5 rfl)) (iG (.list e.2.1 _) e.2.2 ie (λQ=>gH (N.ls e u)) (λf m j=>eD b j/\i0 b j w (.list ((live f).map λr=>tI r.1))/\i0 b j c (.list ((j2 (strip D)++(live f).map (jP e.1)).map ie))/\∃n l,m=[some (.ref d),some (.ref c),some (.int e.1),some (.ref w),n,l])
   (wR (b4 p t.le) (t.own p) (by rw [show live []=[] from rfl,pC,eR];exact y.le t.le) _ _ rfl) (λf m j z=>z.1 _ _ (h.ls e u)) ?_ ?_)
  .intro f r H m kC F X K2 T;refine zS m X λx s o n l=>?_
   refine ei [some (.ref d),some (.ref c),some (.int e.1),some (.ref w),some (tI r.1),some (.int r.2)] rfl ?_
   have g:(live f).length<fE:=rD (a_ (by rw [bh,bb];exact c_ _ _) (O f (oJ _ F)))
   refine pF (yy (rO (M0 (e9:=λq:Row=>jy r.1 q.1) (tA _ (eA g) (a5 rfl) s.at_ λq _ S g=>(ei _ rfl (jG (AY (rf (a5 rfl) (pw (a5 rfl))) (a5 rfl)) rfl))) λS _=>rfl))) λS g=>⟨λi=>?_,λi=>?_⟩
   .refine qD (a5 rfl) (g _ _ s.at_) (by rw [bb];assumption) (a5 rfl) λkH E=>?_
    have kx:=(o.le g).keep E M
    refine qD (a5 rfl) kx.at_ (by rw [bb];exact rD (O f (oJ _ F))) (g5 (iL (l:=tI (e.1::r.1)) (λQ hQ=>AN (g5 (iJ (a5 rfl))) (a5 rfl) ?_ _ hQ) (a5 rfl))) λkG J=>s_end (T _ _ (wR (J.le (E.le (b4 x g) s.fr) o.fr) ⟨?_,s.fr⟩ ⟨?_,o.fr⟩ _ _ rfl))
    .have:=(C.rows _ kB r (mid F)).len
     rw [bb];unfold fE
     exact a_ (d5 this 1) (by decide)
    .rw [J.ne _ M.symm,E.at_,oX,if_neg,b_]
     .rfl
     .rw [fK] at i
      exact λq=>gL (i.symm.trans q)
    .rw [J.at_,oX,if_neg]
     .simp only [b_,eC];rfl
     .rw [fK] at i
      exact λq=>gL (i.symm.trans q)
   .rw [jM] at i
    refine T _ _ (wR (b4 x g) ?_ ?_ _ _ rfl)
    .rw [oX,if_pos i];exact s.le g
    .rw [oX,if_pos i];exact o.le g
  .intro m kC kl;refine zS m kl λx s o n l=>?_
   refine hK _ _ (uw x ?_ _ _ _ _ rfl)
   have:j2 (strip (D++[e]))=j2 (strip D)++(live e.2.2).map (jP e.1):=by
    unfold j2 strip
    rw [b_,kA,eG,pC,iT,zO,eR]
   rw [this];exact o
 .intro m ky W;refine wY m W λp y I B n l=>?_
  exact sh (gw dt (iJ (a5 rfl)) (A0 (f7 y.at_) (by rw [<-L.length_eq];exact ku) L V)) λkD km Y hv=>hR _ _ _ (b4 p Y) (hv.mono p)
noncomputable def Au.grow (A:Au) (k:Nat) (g:Int):Au:=match A.step k g with
 |some _=>A
 |none=>⟨A.steps.set k (A.at k++[(g,A.steps.length)])++[[]],A.ends++[-1]⟩
open Mine.Au renaming grow->x5
noncomputable def jH (A:Au) (k:Nat):g9->Au×Nat
 |[]=>(A,k)
 |g::w=>jH (A.grow k g) (((A.grow k g).step k g).getD 0) w
noncomputable def Au.add (A:Au) (w:g9) (l:Int):Au:=⟨(jH A 0 w).1.steps,(jH A 0 w).1.ends.set (jH A 0 w).2 l⟩
theorem CN (A:Au) (k:Nat):∀(u w:g9),jH A k (u++w)=jH (jH A k u).1 (jH A k u).2 w
 |[],_=>rfl
 |g::u,w=>CN _ _ u w
theorem yF (h:¬a<r.steps.length):r.at a=[]:=by
 unfold Au.at;rw [d_,i_ (iY.mp h)];rfl
theorem mQ (d:a<r.steps.length) (h:r.step a p=none) (i:Nat):(r.grow a p).at i=if i=a then r.at a++[(p,r.steps.length)] else r.at i:=by
 unfold x5;rw [h]
 unfold Au.at
 rw [d_]
 clear h;by_cases b:i=a
 .subst b
  rw [if_pos rfl,eN (by rwa [gI]),GH d];rfl
 .rw [if_neg b]
  by_cases c:i<r.steps.length
  .rw [eN (by rwa [gI]),iH λq=>b q.symm]
   exact (d_ ..).symm
  .rw [fj (by rw [gI];exact iY.mp c),show r.steps.getD i []=[] from yF c]
   cases i - (r.steps.set a _).length<;>rfl
theorem A7 (h:aD.lookup p=none):(aD++[(p,a)]).lookup aB=if aB=p then some a else aD.lookup aB:=by
 induction aD with
 |nil=>
  show ([(p,a)]:List (Int×Nat)).lookup aB=_
  rw [eM]
  by_cases b:aB=p
  .rw [if_pos b,beq_iff_eq.mpr b]
  .rw [if_neg b,beq_false_of_ne b]
 |cons d aD c=>
  obtain ⟨y,v⟩:=d
  rw [eM] at h
  rw [iI,eM,eM]
  split at h
  .contradiction
  .rename_i e
   rw [c h]
   by_cases b:aB=p
   .rw [if_pos b,if_pos b,b,e]
   .rw [if_neg b,if_neg b]
theorem vp (b:a<r.steps.length):(r.grow a p).step a p=some ((r.step a p).getD r.steps.length):=by
 induction h:r.step a p with
 |some t=>unfold x5;rw [h];exact h
 |none=>
  unfold U_
  rw [mQ b h,if_pos rfl,A7 h,if_pos rfl];rfl
theorem p4:(r.grow a p).steps.length=if (r.step a p).isSome then r.steps.length else r.steps.length+1:=by
 unfold x5
 induction r.step a p with
 |some t=>rfl
 |none=>show (_++[[]]).length=_;rw [bh,gI];rfl
variable {di:Int×Nat}
theorem wx (h:di∈r.at a):a<r.steps.length/\r.at a∈r.steps:=by
 by_cases b:a<r.steps.length
 .exact ⟨b,fh (yw b)⟩
 .rw [yF b] at h;exact (ee h).elim
theorem QK (d:r.ends.length=r.steps.length) (c:0<r.steps.length) (e:∀k p,p∈r.at k->p.2<r.steps.length) (f:∀k,((r.at k).map (·.1)).Nodup):r.Ok where
 len:=d
 pos:=c
 to s b p g:=by
  obtain ⟨k,a⟩:=eZ.mp b
  have:=yw (ew.mp a).1
  rw [a] at this;clear d c f b a;(injection this with this;subst this)
  exact e k p g
 nd s b:=by
  obtain ⟨k,a⟩:=eZ.mp b
  have:=yw (ew.mp a).1
  rw [a] at this;clear d c e b a;(injection this with this;subst this)
  exact f k
theorem lookup_none (h:aD.lookup p=none):p∉aD.map (·.1):=λq=>by
 have:=DR h
 rw [show (dV aD).map (·.1)=(aD.map (·.1)).map AV.int by unfold dV;rw [er,er];rfl,qI] at this
 exact this q
theorem Au.Ok.rP (h:r.Ok) (k:Nat):((r.at k).map (·.1)).Nodup:=by
 by_cases a:k<r.steps.length
 .exact h.nd _ (fh (yw a))
 .rw [yF a];exact eI
theorem Au.Ok.M' (h:r.Ok) (b:di∈r.at a):di.2<r.steps.length:=h.to _ (wx b).2 di b
theorem Au.Ok.grow (h:r.Ok) (j:a<r.steps.length) (g:Int):(r.grow a g).Ok:=by
 induction d:r.step a g using d7 with
 |some t=>unfold x5;rw [d];exact h
 |none=>
  have f:(r.grow a g).steps.length=r.steps.length+1:=by rw [p4,d];rfl
  refine QK ?_ (by rw [f];exact fz _) (λi p c=>?_) λi=>?_
  .rw [f];unfold x5;rw [d];show (_++[_]).length=_;rw [bh,h.len];rfl
  .rw [f]
   rw [mQ j d] at c
   split at c
   .rcases eF.mp c with c |c
    .exact jq (h.M' c)
    .rw [dk.mp c];exact fG _
   .exact jq (h.M' c)
  .rw [mQ j d]
   split
   .rw [b_]
    exact eP.mpr ⟨h.rP a,eT.mpr ⟨ee,eI⟩,λm l b k q=>lookup_none d (by
     have e:b=g:=dk.mp k
     rw [<-e,<-q];exact l)⟩
   .exact h.rP i
noncomputable def Au.Small (A:Au):Prop:=∀i,(A.at i).length<A.steps.length
theorem Au.Small.grow (h:r.Small) (c:a<r.steps.length) (g:Int):(r.grow a g).Small:=by
 induction b:r.step a g using d7 with
 |some t=>unfold x5;rw [b];exact h
 |none=>
  intro i
  rw [mQ c b,p4,b]
  split
  .rw [bh];exact ox (h a)
  .exact jq (h i)
theorem M_:∀(w:g9) {A:Au} {k:Nat},A.Ok->k<A.steps.length->(jH A k w).1.Ok/\(jH A k w).2<(jH A k w).1.steps.length:=by
 intro c
 induction c with
 |nil=>
  intro A k h a
  exact ⟨h,a⟩
 |cons g w b=>
  intro A k h a
  refine b (h.grow a g) ?_
  rw [vp a,p4]
  show (A.step k g).getD A.steps.length<_
  induction d:A.step k g with
  |some t=>exact n_ h d
  |none=>exact fG _
theorem Au.Ok.add (h:r.Ok) (w:g9) (l:Int):(r.add w l).Ok:=by
 refine iK (M_ w h h.pos) λa b=>?_
 exact ⟨by show (List.set _ _ _).length=_;rw [gI,a.len];rfl,a.pos,a.to,a.nd⟩
structure Om (s0 st:AS) (a dx l e:Nat) (ds:List Nat) (A:Au):Prop where
 obj:st a=some (.inst 6 dx [(32,.ref l),(55,.ref e)])
 steps:st l=some (.list (ds.map .ref))
 ends:st e=some (.list (A.ends.map .int))
 len:ds.length=A.steps.length
 dict:∀i d,ds[i]? =some d->st d=some (.dict (dV (A.at i)))
 nd:ds.Nodup
 ne:l≠e
 fl:s0 l=none
 fe:s0 e=none
 fd:∀d∈ds,s0 d=none
inductive vF (s0 st:AS) (a:Nat) (A:Au):Prop where
 |mk (dx l e:Nat) (ds:List Nat) (h0:Om s0 st a dx l e ds A):vF s0 st a A
theorem HG (h:C.length=aP.length) (a:∀i d,C[i]? =some d->b d=some (.dict (dV (aP.getD i [])))):ke b C aP:=by
 induction C generalizing aP with
 |nil=>clear a;induction aP using ej with
  |nil=>exact .nil
  |cons=>contradiction
 |cons d C c=>induction aP using ej with
  |nil=>contradiction
  |cons s aP=>exact .cons (a 0 d rfl) (c (Nat.succ.inj h) λi f e=>a (i+1) f e)
theorem Om.au (h:Om b q a d o I C r):CJ q a d o I C r:=⟨h.obj,h.steps,h.ends,HG h.len h.dict⟩
theorem vF.au (h:vF b q a r):mX q a r:=let ⟨c,l,e,d,h⟩:=h;⟨c,l,e,d,h.au⟩
theorem vF.base (h:vF q ax a r) (c:eD b q):vF b ax a r:=let ⟨f,l,e,g,h⟩:=h;⟨f,l,e,g,h.obj,h.steps,h.ends,h.len,h.dict,h.nd,h.ne,jE c h.fl,jE c h.fe,λd i=>jE c (h.fd d i)⟩
theorem vF.with (h:vF b q a r) (p:eD b q) (c:eD q ax) (j:i0 q ax d ay):eD b (b.set d ay)/\eD (b.set d ay) ax/\vF (b.set d ay) ax a r:=by
 have o:b d=none:=jE p j.fr
 refine iz (mU o) (λx m e=>?_) ?_
 .clear h o;by_cases n:x=d
  .subst n;rw [gW] at e;rw [<-e];exact j.at_
  .rw [gv n] at e;exact c _ _ (p _ _ e)
 .obtain ⟨t,l,e,u,h⟩:=h
  have k:∀f m,q f=some m->b f=none->(b.set d ay) f=none:=λf m e y=>(gv λw=>by rw [w,j.fr] at e;contradiction).trans y
  exact ⟨t,l,e,u,c _ _ h.obj,c _ _ h.steps,c _ _ h.ends,h.len,λi g e=>c _ _ (h.dict i g e),h.nd,h.ne,k _ _ h.steps h.fl,k _ _ h.ends h.fe,λg s=>by
   obtain ⟨i,v⟩:=eZ.mp s
   exact k _ _ (h.dict i g v) (h.fd g s)⟩
theorem nP:(aD.lookup p).isSome=true↔p∈aD.map (·.1):=by
 induction h:aD.lookup p with
 |none=>exact ⟨(by intros;contradiction),λq=>absurd q (lookup_none h)⟩
 |some t=>exact ⟨λ_=>by have:=fC (f:=(·.1)) (rM h);rw [show (dV aD).map (·.1)=(aD.map (·.1)).map AV.int by unfold dV;rw [er,er];rfl,qI] at this;exact this,λ_=>rfl⟩
theorem DZ:AV.int p∈(dV aD).map (·.1)↔p∈aD.map (·.1):=by
 rw [show (dV aD).map (·.1)=(aD.map (·.1)).map AV.int by unfold dV;rw [er,er];rfl,qI]
theorem jZ (h:l∉aC.map (·.1)):dictPut aC l af=aC++[(l,af)]:=if_neg h
theorem wy (n:Ev i e b aL af) (d:Ev i e b g (.ref a)) (j:b a=some (.dict aC)) (f:Ev i e b D l) (k:tc l aC) (m:aC.length<fE) (h:∀c,Upd b c a (.dict (dictPut aC l af))->jo PG i ah e c ag):
 jo PG i (.cons (.t7 g D aL) ah) e b ag:=n _ (d _ (f _ (.dict j k m (h _ pq))))
theorem RK (m:Ev i e b g (.ref a)) (l:b a=some (.list j)) (p:j.length<fE) (h:∀c f d,sg b f c (.dict [])->Upd f d a (.list (j++[.ref c]))->jo PG i ah e d ag):
 jo PG i (.cons (.ex (.fL g 0 (.cons (.dict .nil) .nil))) ah) e b ag:=m _ (.list l (.inl rfl) ⟨[],rfl,eI,λc n=>by
 have k:=fM (ay:=.dict []) n
 exact (ei _ (k.le _ _ l) (.app p (h c _ _ k pq)))⟩)
theorem RL (h:Ev i e b g (.int p)) (c:Ev i e b D (.ref a)) (f:b a=some (.dict (dV aD))):Tv i e b (.cmp g .Cf D) (!(aD.lookup p).isSome):=
 f9 (fU h c λQ d=>.Cf (.dict f (.inl ⟨⟨_,rfl⟩,nO _⟩) _ (nP.trans DZ.symm)) d)
theorem gy:dq[a]? =some dp->a<dq.length:=λb=>(ew.mp b).1
theorem yG (h:C.Nodup) (b:C[a]? =some o) (c:C[d]? =some o):a=d:=(iR (gy b) h).mp (b.trans c.symm)
theorem Na (hM:vF b q d r) (kq:eD b q) (hO:r.Ok) (hS:r.Small) (hl:r.steps.length+av.length<fE) (T:∀H,eD b H->vF b H d (r.add av p)->n .none H):eE PG (a+4) (.fn 44) [.ref d,tI av,.int p] q n:=by
 refine gO [some (.ref d),some (tI av),some (.int p),none,none] (c_ 2 _) rfl rfl (g8 dt (oR (a5 rfl) ?_))
 refine iG .tup av AV.int (λn h=>.tup h) (λw m H=>eD b H/\vF b H d (jH r 0 w).1/\((jH r 0 w).1.Ok/\(jH r 0 w).1.Small/\(jH r 0 w).2<(jH r 0 w).1.steps.length/\(jH r 0 w).1.steps.length<=r.steps.length+w.length)/\∃w4,m=[some (.ref d),some (tI av),some (.int p),some (.int (jH r 0 w).2),w4])
  ⟨kq,hM,⟨hO,hS,hO.pos,eJ _⟩,_,rfl⟩ (λ_ _ _ _=>trivial) ?_ ?_
 .intro w s r' m kN hw kG K X;refine Di m kG λN f km w4=>?_;refine wW km λO V D U=>?_
  rw [CN] at X
  generalize (jH r 0 w).1=u at*
  generalize (jH r 0 w).2=k at*
  have hd:w.length<av.length:=by rw [hw,bh,e_];exact gj (fz _)
  have Y:u.steps.length<fE:=c4 (a_ U (d5 (eA hd) _)) hl
  clear kG km;obtain ⟨dx,E,I,L,f⟩:=f
  refine eS (f.au.dict D) λM J G=>?_
  have kl:L[k]? =some M:=by
   rw [ed] at J
   refine eS (fV.mp J) λx hx e=>?_
   clear hM kq hO hS hl T hw N O V U X D hd Y f J G;(injection e with e;subst e);exact hx
  refine ei _ rfl (yC (λm H=>eD b H/\vF b H d (u.grow k s)/\m=[some (.ref d),some (tI av),some (.int p),some (.int k),some (.int s)]) (λK' kn=>yD (RL (a5 rfl) (fq (eO (a5 rfl) f.obj rfl) f.steps (a5 rfl) J) G _ ?_)) ?_)
  .induction C:u.step k s with
   |some t=>
    rw [show (u.at k).lookup s=some t from C]
    exact kn _ _ (iz N (by unfold x5;rw [C];exact ⟨_,_,_,_,f⟩) rfl)
   |none=>
    rw [show (u.at k).lookup s=none from C]
    have hg:AV.int s∉(dV (u.at k)).map (·.1):=λl=>lookup_none C (DZ.mp l)
    refine wy (af:=.int u.steps.length) (λn T=>jd (eO (a5 rfl) f.obj rfl) (f7 f.steps) _ (by rw [bb,f.len];exact T)) (fq (eO (a5 rfl) f.obj rfl) f.steps (a5 rfl) J) G (a5 rfl) (.inl ⟨(oJ _ rfl),nO _⟩) ?_ λkI u2=>?_
    .unfold dV;rw [bb];exact gF (V k) Y
    rw [jZ hg] at u2
    have kC:d≠M:=λl=>by have:=f.obj;rw [l,G] at this;(injection this;contradiction)
    have kz:E≠M:=λl=>by have:=f.steps;rw [l,G] at this;(injection this;contradiction)
    have kB:I≠M:=λl=>by have:=f.ends;rw [l,G] at this;(injection this;contradiction)
    have o2:=(u2.ne d kC).trans f.obj
    have l2:=(u2.ne E kz).trans f.steps
    have e2:=(u2.ne I kB).trans f.ends
    refine RK (eO (a5 rfl) o2 rfl) l2 (by rw [bb,f.len];exact Y) λc kD kW B P=>?_
    have ku:d≠E:=λl=>by have:=B.le _ _ o2;rw [l,B.le _ _ l2] at this;(injection this;contradiction)
    have o4:=(P.ne d ku).trans (B.le _ _ o2)
    have e4:=(P.ne I f.ne.symm).trans (B.le _ _ e2)
    refine qD (eO (a5 rfl) o4 rfl) e4 (by rw [bb,O.len];exact Y) dt λkQ R=>kn _ _ (iz ?_ ⟨dx,E,I,L++[c],?_⟩ rfl)
    .refine R.le (P.le (b4 (u2.le N (f.fd M (fh kl))) B.le) f.fl) f.fe
    .have c3:∀F o,kD F=some o->F≠E->F≠I->kQ F=some o:=λF o e h1 h2=>(R.ne F h2).trans ((P.ne F h1).trans e)
     have W:∀{F kU},kD F=some (.dict kU)->F≠E/\F≠I:=λe=>⟨λl=>(by rw [l,B.le _ _ l2] at e;(injection e;contradiction)),λl=>(by rw [l,B.le _ _ e2] at e;(injection e;contradiction))⟩
     have ky:u.steps.length=L.length:=f.len.symm
     refine ⟨(R.ne d λl=>by have:=o4;rw [l,e4] at this;(injection this;contradiction)).trans o4,(R.ne E f.ne).trans (by rw [P.at_,b_];rfl),?_,?_,λi d' z=>?_,?_,f.ne,f.fl,f.fe,λd' kJ=>(eF.mp kJ).elim (f.fd d') λh=>?_⟩
     .rw [R.at_];unfold x5;rw [C,b_];rfl
     .rw [p4,C,bh,f.len];rfl
     .rw [mQ D C]
      rcases j' i L.length with Z |Z
      .rw [eN Z] at z
       clear hM kq hO hS hl T hw N O V U X D hd Y J G kn C hg kC kz kB o2 l2 e2 P ku o4 e4 R ky Z;by_cases kx:i=k
       .clear f;subst kx
        rw [kl] at z;obtain rfl:=d3 z
        have Q:=B.le _ _ u2.at_
        rw [if_pos rfl,c3 _ _ Q (W Q).1 (W Q).2]
        unfold dV;rw [b_];rfl
       .rw [if_neg kx]
        have Q:=B.le _ _ ((u2.ne d' λl=>kx (yG f.nd z (l▸kl))).trans (f.dict i d' z))
        exact c3 _ _ Q (W Q).1 (W Q).2
      .rw [fj Z] at z
       have kT:d'=c:=by
        induction h:i -L.length using ji with
        |zero=>rw [h] at z;exact (d3 z).symm
        |succ j=>rw [h] at z;contradiction
       clear hM kq hO hS hl T hw N O V U X hd Y f J G kl kn C hg u2 kC kz kB o2 l2 e2 P ku o4 e4 R z;subst kT
       rw [if_neg λl=>iY.mpr Z (by rw [l,<-ky];exact D),yF λl=>iY.mpr Z (by rw [<-ky];exact l)]
       exact c3 _ _ B.at_ (W B.at_).1 (W B.at_).2
     .refine eP.mpr (iz f.nd (eT.mpr ⟨ee,eI⟩) (λx hx y hy l=>?_))
      refine j_ (eZ.mp hx) λi z=>?_
      rw [l,dk.mp hy] at z
      have e0:=f.dict i c z
      have:=B.fr
      by_cases kH:c=M
      .rw [kH,u2.at_] at this;contradiction
      .rw [u2.ne c kH,e0] at this;contradiction
     .rw [dk.mp h]
      exact jE (u2.le N (f.fd M (fh kl))) B.fr
  .intro m kI kK;refine S6 m kK λkO S=>?_
   have C:=vp (r:=u) (p:=s) D
   obtain ⟨dx,E,I,L,S⟩:=S
   have kF:=O.grow D s
   have kV:k<(u.grow k s).steps.length:=by
    rw [p4];split
    .exact D
    .exact jq D
   refine eS (S.au.dict kV) λM J G=>?_
   have e1:jH u k [s]=(u.grow k s,(u.step k s).getD u.steps.length):=by
    show (u.grow k s,((u.grow k s).step k s).getD 0)=_
    rw [C];rfl
   rw [e1] at X
   refine g8 (sd (fq (eO (a5 rfl) S.obj rfl) S.steps (a5 rfl) J) G (a5 rfl) (.inl ⟨(oJ _ rfl),nO _⟩) (rM C)) (X _ _ ⟨kO,⟨_,_,_,_,S⟩,⟨kF,V.grow D s,n_ kF C,?_⟩,(some (.int s)),rfl⟩)
   rw [p4,bh]
   refine a_ ?_ (fg U)
   split
   .exact v3 _
   .exact eJ _
 .intro m kN kP;refine Di m kP λN km kM w4=>?_;obtain ⟨dx,E,I,L,f⟩:=km;refine wW kM λO V D U=>?_
  refine A3 (a5 rfl) (eO (a5 rfl) f.obj rfl) f.ends (a5 rfl) (by rw [bb,O.len];exact D) λkI u2=>ei _ (ec _) (T _ (u2.le N f.fe) ⟨dx,E,I,L,(u2.ne d λl=>?_).trans f.obj,(u2.ne E f.ne).trans f.steps,?_,f.len,λi w z=>(u2.ne w λl=>?_).trans (f.dict i w z),f.nd,f.ne,f.fl,f.fe,f.fd⟩)
  .have:=f.obj;rw [l,f.ends] at this;(injection this;contradiction)
  .rw [u2.at_,<-GF];rfl
  .have:=f.dict i w z;rw [l,f.ends] at this;(injection this;contradiction)
noncomputable def A8:Au:=⟨[[]],[-1]⟩
noncomputable def jl (A:Au) (rs:List Row):Au:=rs.foldl (λA r=>A.add r.1 r.2) A
theorem HH (A:Au) (u w:List Row):jl A (u++w)=jl (jl A u) w:=iS ..
theorem HI:A8.Ok where
 len:=rfl
 pos:=j9
 to s a p b:=by cases dk.mp a;exact (ee b).elim
 nd s a:=by cases dk.mp a;exact eI
theorem CO:A8.Small:=λi=>by rcases i with ⟨⟩<;>exact j9
theorem FT:∀(w:g9) {A:Au} {a:Nat},A.Ok->A.Small->a<A.steps.length->(jH A a w).1.Small/\(jH A a w).1.steps.length<=A.steps.length+w.length:=by
 intro i
 induction i with
 |nil=>
  intro A a h d c
  exact ⟨d,eJ _⟩
 |cons b w f=>
  intro A a h d c
  have e:=vp (p:=b) c
  have:=f (a:=((A.grow a b).step a b).getD 0) (h.grow c b) (d.grow c b) (by rw [e];exact n_ (h.grow c b) e)
  refine ⟨this.1,a_ this.2 ?_⟩
  rw [p4,e_,eY w.length 1,<-fI]
  refine gz ?_ _
  split
  .exact v3 _
  .exact eJ _
theorem CP:∀(a:List Row) {A:Au},A.Ok->A.Small->(∀r∈a,r.1.length<=4)->(jl A a).Ok/\(jl A a).Small/\(jl A a).steps.length<=A.steps.length+4*a.length:=by
 intro f
 induction f with
 |nil=>
  intro A h b _
  exact iz h b (eJ _)
 |cons r a e=>
  intro A h b d
  have c:=FT r.1 h b h.pos
  have:=e (h.add r.1 r.2) c.1 λq g=>d q (.tail _ g)
  refine iz this.1 this.2.1 (a_ this.2.2 ?_)
  rw [e_,SR,eY (4*_) 4,<-fI]
  exact gz (a_ c.2 (d5 (d r (.head _)) _)) _
noncomputable def om (T:Table) (k:Int):List Row:=(live ((T.lookup k).getD [])).map (jP k)
noncomputable def nv (T:Table):List Row:=(sortI (T.map (·.1))).flatMap (om T)
theorem D0 (h:p∈aK.map (·.1)):∃e∈aK,e.1=p/\(strip aK).lookup p=some e.2.2:=by
 refine yb (yA h) λa c f c b=>?_;subst c;obtain ⟨r,l⟩:=c
 refine gq (p,r,l) (by simp) rfl ?_
 clear h
 induction a with
 |nil=>exact List.lookup_cons_self
 |cons e a d=>
  rw [eG,eK,not_or] at b
  show ((e.1,e.2.2)::strip (a++(p,r,l)::f)).lookup p=_
  rw [eM,beq_false_of_ne b.1]
  exact d b.2
theorem FU (h:VE PG i g e b λ_ b=>jo PG i ah e b ag):jo PG i (.cons (.ex g) ah) e b ag:=h
theorem iq (h:VE PG i D e b λv b=>VE PG i g e b λk b=>xa b (λj c d f=>Nx i ah ag .next e (b.set j (.inst c d (iy f a v)))) k):jo PG i (.cons (.iA g a D) ah) e b ag:=h
theorem i8 (f:Ev i e b g (.ref d)) (j:b d=some (.inst o I aS)) (h:∀c,Upd b c d (.inst o I (iy aS a l))->jo PG i ah e c ag):
 VE PG i g e b (λk b=>xa b (λd o I aS=>Nx i ah ag .next e (b.set d (.inst o I (iy aS a l)))) k):=IY f j (h _ pq)
theorem si (f:IV i e b ar j) (h:∀c a,sg b a c (.list j)->n (.ref c) a):VE PG i (.lst ar) e b n:=f _ λc d=>h c _ (fM d)
theorem A9 (h:∀c a,sg b a c (.dict [])->n (.ref c) a):VE PG i (.dict .nil) e b n:=gq [] rfl eI (λc d=>h c _ (fM d))
theorem RM (h:VE PG i g e b λv b=>∀c d,sg b d c (.list [v])->n (.ref c) d) (j:∀n a:AV->AS->Prop,(∀v s,n v s->a v s)->VE PG i g e b n->VE PG i g e b a):VE PG i (.lst (.cons g .nil)) e b n:=j _ _ (λv s k c f=>k c _ (fM f)) h
theorem zZ (i:PG.Dn[d]? =some bO) (h:∀c f e,sg b e c (.inst d f [])->eE PG a (.fn bO.init) (.ref c::j) e λv e=>v= .none/\n (.ref c) e):eE PG (a+1) (.cls d) j b n:=
 call_cls i λc f g k l=>h c f _ (fM g)
theorem FV (h:∀j t,eD b t->vF b t j A8->b j=none->n (.ref j) t):eE PG (a+4) (.cls 6) [] b n:=by
 refine zZ rfl λj r N n1=>gO [some (.ref j)] (c_ 2 _) rfl rfl (iq (RM (A9 λd L g l K k=>?_) λn I h D=>(gq [] rfl eI (λF B=>?_))))
 .have v:=k.ne (g.le _ _ n1.at_)
  have x:=g.ne n1.at_
  refine i8 (o:=6) (I:=r) (aS:=[]) (a5 rfl) (k.le _ _ (g.le _ _ n1.at_)) λJ m=>iq (si (iJ dt) λe s5 f=>i8 (o:=6) (I:=r) (aS:=[(32,.ref l)]) (a5 rfl) (f.le _ _ m.at_) λM o=>(gq _ (ec _) rfl ?_))
  have E:=f.ne m.at_
  have u:=(m.ne l v.symm).trans k.at_
  have w:=m.le (b4 n1.le (b4 g.le k.le)) n1.fr
  refine h j _ (o.le (b4 w f.le) n1.fr) ⟨r,l,e,[d],o.at_,(o.ne l v.symm).trans (f.le _ _ u),(o.ne e E.symm).trans f.at_,rfl,λi y s=>?_,eT.mpr ⟨ee,eI⟩,f.ne u,jE (b4 n1.le g.le) k.fr,jE w f.fr,λy z=>?_⟩ n1.fr
  .induction i using ji with
   |zero=>(injection s with s;subst s);exact (o.ne d x.symm).trans (f.le _ _ ((m.ne d x.symm).trans (k.le _ _ g.at_)))
   |succ i=>contradiction
  .rw [dk.mp z];exact jE n1.le g.fr
 .refine gi D λG H A C=>?_
  clear n1 A;induction G using ej with
  |nil=>exact h _ _ (C F B)
  |cons p q=>contradiction
theorem p5 (b:(aU.map (·.1)).Nodup):(nv aU).Perm (j2 aU):=by
 refine (WB _ (sortI_perm _)).trans (.of_eq ?_)
 have j:∀a:Table,(∀p∈a,aU.lookup p.1=some p.2)->(a.map (·.1)).flatMap (om aU)=j2 a:=by
  intro a h
  induction a with
  |nil=>rfl
  |cons p a d=>
   show om aU p.1++(a.map (·.1)).flatMap (om aU)=_++j2 a
   rw [d λq c=>h q (.tail _ c)]
   unfold om
   rw [h p (.head _)];rfl
 refine j aU λp f=>?_
 refine qX (m_ f) λg a e=>?_
 rw [e] at b⊢
 rw [b_,eP] at b
 refine gS.mpr (nA g a rfl (λq c=>?_))
 rw [bne_iff_ne]
 exact λi=>b.2.2 _ (fC c) p.1 (.head _) i.symm
theorem D1 (h:vn aU a):∀r∈j2 aU,r.1.length<=4/\DY r.1/\10<=r.2/\r.1≠[]:=λr c=>by
 refine eS (oq.mp c) λp d c=>?_
 refine iQ r (ck.mp c) λq i=>?_
 have b:=h.rows p d q ((xE p.2 []).subset i)
 exact uu (fg b.len) (λg f=>(eK.mp f).elim (λe=>e▸h.gl _ (fC d)) (b.gl g)) b.HE (by (repeat intro _);contradiction)
theorem A' (h:kj b a aK) (Q:List AV->Prop) (c:Q ((aK.map (·.1)).map .int)):pg b Q (.ref a):=q8 h.dict (xH aK) _ (by rw [uR];exact c)
theorem vn.RN (h:vn (strip aK) a):(aK.map (·.1)).length<=a:=by
 have:∀T:Table,(∀p∈T,0<p.2.length)->T.length<=(T.map λp=>p.2.length).sum:=by
  intro T h
  induction T with
  |nil=>exact eJ _
  |cons p T c=>
   rw [eG,jC,e_,eY]
   exact fO (h p (.head _)) (c λq d=>h q (.tail _ d))
 have b:=this _ h.ne
 unfold strip at b
 rw [bb] at b⊢
 exact a_ b h.KX
theorem D3 (M:b d=some (.inst 5 I [(54,.ref o)])) (h:kj b o aK) (s:vn (strip aK) 5) (hP:∀i g,eD b g->mX g i (jl A8 (nv (strip aK)))->n (.ref i) g):Cl (eE PG (a+6)) (.fn 47) [.ref d] b n:=by
 have G:∀u f,nv (strip aK)=u++f->u.length<=5/\∀r∈u,r.1.length<=4:=λu f e=>by
  have hp:=p5 s.keys
  constructor
  .refine a_ (a_ (eg _ f.length) (gu ?_)) (a_ (rj (strip aK)) s.KX)
   rw [<-hp.length_eq,e,bh]
  .exact λr hr=>(D1 s r (hp.mem_iff.mp (by rw [e];exact fQ _ hr))).1
 refine jO [some (.ref d),none,none,none,none] (c_ _ _) rfl rfl λZ F R hR=>?_
 (injection F with F;subst F)
 refine je (g6 dt gP (FV (a:=a+1) λi s1 j M1 _=>?_))
 refine rd (gw dt (iJ (eO (a5 rfl) (j _ _ M) rfl)) (sJ (a:=a+4) (A' (h.le j)) s.RN)) λf s2 l2 H=>?_
 refine jj f H λc O=>?_
 refine mV (M1.with j l2 O) λC b1 M2=>?_
 have kD:=gW b c (.list ((sortI (aK.map (·.1))).map .int))
 generalize va b c (.list ((sortI (aK.map (·.1))).map .int))=y at*
 have kC:∀u f,nv (strip aK)=u++f->(jl A8 u).Ok/\(jl A8 u).Small/\(jl A8 u).steps.length<=21:=λu f e=>by
  have:=CP u HI CO (G u f e).2
  exact iz this.1 this.2.1 (a_ this.2.2 (d5 (gQ 4 (G u f e).1) 1))
 have Y:sortI (aK.map (·.1))=sortI ((strip aK).map (·.1)):=by rw [rh]
 refine iG (.list c _) (sortI (aK.map (·.1))) .int (λQ=>gH O.at_) (λD m g=>eD y g/\vF y g i (jl A8 (D.flatMap (om (strip aK))))/\∃J l p,m=[some (.ref d),some (.ref i),J,l,p]) (vb b1 M2 _ _ _ rfl) (λ_ _ _ z=>z.1 _ _ kD) ?_ ?_
 .intro D Z S m P V kH K hK;refine ve m kH λw E J l p=>?_
  have j:=b4 C w
  refine gi (D0 (p:=Z) (ip.mp (mid V))) λe A kK kF=>?_
  subst kK
  have N:om (strip aK) e.1=(live e.2.2).map (jP e.1):=by unfold om;rw [kF];rfl
  have X:nv (strip aK)=D.flatMap (om (strip aK))++((live e.2.2).map (jP e.1)++S.flatMap (om (strip aK))):=by
   unfold nv
   rw [<-Y,V,kA,iT,N]
  refine ei _ rfl (rd (gw dt (iJ (yE (h.le j) A (eO (a5 rfl) (j _ _ M) rfl) (a5 rfl))) (CL (a:=a+1) ((h.le j).ls e A) (eA (rD (s.FQ (ck.mpr ⟨e,A,rfl⟩)))))) λf kO kx H=>?_)
  refine jj f H λc2 W=>?_
  refine mV (E.with w kx W) λb2 b3 M3=>?_
  have kG:=gW y c2 (.list ((live e.2.2).map ie))
  generalize va y c2 (.list ((live e.2.2).map ie))=U at*
  refine iG (.list c2 _) (live e.2.2) ie (λQ=>gH W.at_) (λt m g=>eD U g/\vF U g i (jl A8 (D.flatMap (om (strip aK))++t.map (jP e.1)))/\∃l p,m=[some (.ref d),some (.ref i),some (.int e.1),l,p]) (qU b3 (by rw [pC,eR];exact M3) _ _ rfl) (λ_ _ _ z=>z.1 _ _ kG) ?_ ?_
  .intro t q r2 m kB kl kn K2 kI;refine rZ m kn λB x l p=>?_
   have L:=kC (D.flatMap (om (strip aK))++t.map (jP e.1)) ((q::r2).map (jP e.1)++S.flatMap (om (strip aK))) (by rw [X,kl,b_,eC,eC])
   have T:(jP e.1 q).1.length<=4:=(G (D.flatMap (om (strip aK))++(live e.2.2).map (jP e.1)) _ (by rw [X,eC])).2 _ (fS _ (fC (mid kl)))
   have kJ:jl A8 (D.flatMap (om (strip aK))++(t++[q]).map (jP e.1))=(jl A8 (D.flatMap (om (strip aK))++t.map (jP e.1))).add (e.1::q.1) q.2:=by
    rw [b_,<-eC,HH];rfl
   obtain ⟨kN,l3,e3,kM,ku⟩:=id x
   refine ei [some (.ref d),some (.ref i),some (.int e.1),some (tI q.1),some (.int q.2)] rfl (FU (jr (a5 rfl) ku.obj rfl rfl rfl (iL (l:=tI (e.1::q.1)) (λQ hQ=>AN (g5 (iJ (a5 rfl))) (a5 rfl) ?_ _ hQ) (a5 rfl)) (Na (a:=a+1) x B L.1 L.2.1 ?_ λkP kz kq=>kI _ _ ⟨kz,?_,_,_,rfl⟩)))
   .rw [bb];exact a_ (gu (eY 1 _)) (a_ T (by unfold fE;decide))
   .exact c4 (fO L.2.2 T) (by unfold fE;decide)
   .rw [kJ];exact kq
  .intro m kB ky;refine rZ m ky λB x l p=>?_
   refine hK _ _ (vb (b4 b2 B) ?_ _ _ _ rfl)
   rw [kA,iT,zO,eR,N]
   exact x.base b2
 .intro m P km;refine ve m km λw E J l p=>?_
  refine iM (a5 rfl) (hR _ _ _ (b4 C w) (hP i P (b4 C w) ?_))
  unfold nv
  rw [<-Y];exact E.au
noncomputable def I3 (p:Int×List Row):AV:=.tup [.int p.1,.tup (p.2.map ie)]
noncomputable def Nb (K:List (Int×List Row)):AV:=.tup (K.map I3)
theorem Kh (w:b d=some (.inst 5 I [(54,.ref o)])) (h:kj b o aK) (u:vn (strip aK) 5) (S:Int->List Row) (B:∀e∈aK,(S e.1).Perm (live e.2.2)/\(S e.1).Pairwise λE K=>E.1<K.1) (J:∀A,eD b A->n (Nb (((sortI (aK.map (·.1))).map λf=>(f,S f)).filter λp=>!decide (p.2=[]))) A):Cl (eE PG (a+6)) (.fn 35) [.ref d] b n:=by
 refine jO [some (.ref d),none] (c_ _ _) rfl rfl λf i R D=>?_
 (injection i with i;subst i)
 have C:(sortI (aK.map (·.1))).length<=5:=by rw [(sortI_perm _).length_eq];exact u.RN
 refine yz (xD (λf=>I3 (f,S f)) (eA (rD C)) (gw dt (iJ (eO (a5 rfl) w rfl)) (sJ (a:=a+4) (A' h) u.RN)) λf i G g=>(ei _ rfl ?_)) λv G g j=>?_
 .refine Qn f (D0 (ip.mp i)) λe l L=>?_
  have z:=u.FQ (ck.mpr (ei e l rfl))
  exact IZ (a5 rfl) (pZ (a:=a+4) (Kg (a:=a+4) (gw dt (iJ (yE (h.le g) l (eO (a5 rfl) (g _ _ w) rfl) (a5 rfl))) (CL (a:=a+1) ((h.le g).ls e l) (eA (rD z))))
   (a_ (xF _) z) (B e l).1 (B e l).2) λ_ _=>rfl)
 .refine jj v j λc F=>?_
  refine sh (pZ (a:=a+4) (j:=(((sortI (aK.map (λe:Int×Nat×List Row=>e.1))).map λf=>(f,S f)).filter λp:Int×List Row=>!decide (p.2=[])).map I3) (qp (uQ (λf=>!decide (S f=[])) (λf=>I3 (f,S f)) (eA (rD C)) (a5 rfl) F.at_ λf i s r=>(gq _ rfl (tw (pv (f9 (fU (pk (a:=1) (a5 rfl) dt rfl) (g5 gP) λQ H=>.ne (.plain ?_ ?_ (decide (S f=[])) ?_) H)))) (λ_ M _=>jG (a5 rfl) rfl))) λv s r j=>?_) (n:=n) λs r=>J s (b4 g r)) λv s r j=>D _ _ _ (b4 g r) j
  .exact .tup _ _ λx t=>by
    refine iQ x (ck.mp t) λq _=>?_
    exact .tup _ _ λy m=>by
     cases m with
     |head=>exact yt 3 _
     |tail _ m=>
      cases m with
      |head=>exact .int _ _
      |tail _ m=>exact (ee m).elim
  .exact .tup _ _ λx t=>by exact (ee t).elim
  .rw [decide_eq_true_iff]
   exact ⟨λe=>by rw [e];rfl,λe=>jt.mp (AV.tup.inj e)⟩
  .rw [uo,er];exact j
noncomputable def gG (R:List Row) (u:g9):List Row:=(R.filter λr=>jy r.1 u).map λr=>(r.1.drop u.length,r.2)
noncomputable def after (R:List Row) (g:Int):List Row:=gG R [g]
noncomputable def sL (R:List Row):Int:=((R.find? λr=>r.1.isEmpty).map (·.2)).getD (-1)
theorem gK:jy av bS=true↔bS<+:av:=by
 unfold jy
 rw [decide_eq_true_iff]
 exact ⟨λh=>h▸List.take_prefix _ _,λh=>(List.prefix_iff_eq_take.mp h).symm⟩
theorem mR:bj∈gG a7 av↔(av++bj.1,bj.2)∈a7:=by
 unfold gG
 rw [ck]
 constructor
 .intro c;refine iQ bj c λq e=>?_
  refine iK (gA.mp e) λd b=>?_
  refine j_ (gK.mp b) λt a=>?_
  rw [<-a,iU,a];exact d
 .intro h
  exact ei _ (gA.mpr ⟨h,gK.mpr (xV _ _)⟩) (by rw [iU])
theorem jU:bj∈after a7 p↔(p::bj.1,bj.2)∈a7:=mR
theorem tC (R:List Row):gG R []=R:=by
 unfold gG
 rw [jv.mpr λr _=>gK.mpr (uk)]
 exact List.map_id' R
theorem Nc {v:g9}:jy av (bS++v)=(jy av bS&&jy (av.drop bS.length) v):=by
 rw [BE,eV,gK,gK,gK]
 constructor
 .intro b;refine WJ av b λt=>?_
  rw [eC]
  exact ⟨xV _ _,by rw [iU];exact xV _ _⟩
 .intro a;obtain ⟨⟨t,rfl⟩,h⟩:=a
  rw [iU] at h
  exact (List.prefix_append_right_inj _).mpr h
theorem tD (R:List Row) (u v:g9):gG (gG R u) v=gG R (u++v):=by
 unfold gG
 rw [uo,er,List.filter_filter]
 have:(λr:Row=>((λr:Row=>jy r.1 v)∘λr:Row=>(r.1.drop u.length,r.2)) r&&jy r.1 u)=λr=>jy r.1 (u++v):=by
  funext r;rw [Nc,Bool.and_comm];rfl
 rw [this]
 refine fk λr _=>?_
 show ((r.1.drop u.length).drop v.length,r.2)=_
 rw [ig,bh]
theorem A_ (x:Int) (w:g9) (l:Int) (R:List Row) (g:Int):after ((x::w,l)::R) g=if x=g then (w,l)::after R g else after R g:=by
 unfold after gG
 by_cases h:x=g
 .have a:jy (x::w) [g]=true:=gK.mpr (by rw [h];exact (oJ w rfl))
  rw [if_pos h,k8 (p:=λr:Row=>jy r.1 [g]) a];rfl
 .rw [if_neg h,k9 (p:=λr:Row=>jy r.1 [g]) λq=>h (by refine j_ (gK.mp q) λt b=>?_;exact (fo b).1.symm)]
theorem Ki (l:Int) (R:List Row) (g:Int):after (([],l)::R) g=after R g:=by
 unfold after gG
 rw [k9 (p:=λr:Row=>jy r.1 [g]) λq=>by obtain ⟨t,a⟩:=gK.mp q;contradiction]
theorem Ba {f g:h->List t}:∀{l:List h},(∀x∈l,f x=g x)->l.flatMap f=l.flatMap g:=by
 intro d
 induction d with
 |nil=>
  intro _
  exact rfl
 |cons x l b=>
  intro a
  rw [iT,iT,a x (.head _),b λy c=>a y (.tail _ c)]
theorem FW (o:a8.Nodup):∀{R:List Row},(∀g w l,(g::w,l)∈R->g∈a8)->R.Perm (R.filter (λr=>r.1.isEmpty)++a8.flatMap λg=>(after R g).map (jP g)):=by
 intro R
 induction R with
 |nil=>
  intro _
  have:(a8.flatMap λg=>(after [] g).map (jP g))=[]:=List.flatMap_eq_nil_iff.mpr λg _=>rfl
  rw [this];exact .refl _
 |cons r R i=>
 intro h
 obtain ⟨r,l⟩:=r
 have b:=i λg w l s=>h g w l (.tail _ s)
 clear i
 induction r using ej with
 |nil=>
  have e:(a8.flatMap λg=>(after (([],l)::R) g).map (jP g))=a8.flatMap λg=>(after R g).map (jP g):=by simp only [Ki]
  rw [e]
  exact .cons _ b
 |cons x w=>
  refine qX (m_ (h x w l (.head _))) λd c t=>?_;subst t
  have j:=eP.mp o
  have f:∀g,g≠x->after ((x::w,l)::R) g=after R g:=λg a=>by rw [A_,if_neg λq=>a q.symm]
  have p:(d.flatMap λg=>(after ((x::w,l)::R) g).map (jP g))=d.flatMap λg=>(after R g).map (jP g):=Ba λg a=>by rw [f g λq=>j.2.2 g a x (.head _) q]
  have k:(c.flatMap λg=>(after ((x::w,l)::R) g).map (jP g))=c.flatMap λg=>(after R g).map (jP g):=Ba λg a=>by rw [f g λq=>(eT.mp j.2.1).1 (q▸a)]
  rw [kA,iT] at b⊢
  rw [p,k,A_,if_pos rfl]
  refine (b.cons (x::w,l)).trans ?_
  have m:((x::w,l)::R).filter (λr=>r.1.isEmpty)=R.filter (λr=>r.1.isEmpty):=rfl
  have n:((w,l)::after R x).map (jP x)=(x::w,l)::(after R x).map (jP x):=rfl
  rw [m,n,iI]
  have:=@List.perm_middle Row (x::w,l) (R.filter (λr=>r.1.isEmpty)++d.flatMap λg=>(after R g).map (jP g)) ((after R x).map (jP x)++c.flatMap λg=>(after R g).map (jP g))
  rw [eC,eC] at this
  exact this.symm
noncomputable def wt (r:Row):Nat:=2*r.1.length+1
noncomputable def sz (R:List Row):Nat:=(R.map wt).sum
theorem RP (R S:List Row):sz (R++S)=sz R+sz S:=by unfold sz;rw [b_,qJ]
theorem PL (g:Int) (R:List Row):sz (R.map (jP g))=sz R+2*R.length:=by
 induction R with
 |nil=>rfl
 |cons r R a=>
  have e:∀(r:Row) R,sz (r::R)=wt r+sz R:=λ_ _=>rfl
  rw [eG,e,a,e,e_]
  have:wt (jP g r)=wt r+2:=rfl
  exact WO this
theorem Nd (c:a8.Nodup) (h:∀g w l,(g::w,l)∈a7->g∈a8) (b:∀g∈a8,after a7 g≠[]):(a8.map λg=>1+sz (after a7 g)).sum<=sz a7:=by
 have a:sz a7=_:=(WA wt (FW c h)).sum_nat
 rw [b_,qJ] at a
 rw [a]
 refine a_ ?_ (c_ _ _)
 clear a h c
 induction a8 with
 |nil=>exact ft _
 |cons g a8 d=>
  rw [eG,jC,iT,b_,qJ]
  refine fO ?_ (d λg e=>b g (.tail _ e))
  have:=PL g (after a7 g)
  unfold sz at this⊢
  rw [this]
  have:0<(after a7 g).length:=oG.mpr (b g (.head _))
  exact WQ this
structure tT (A:Au) (L:Nat->List Row):Prop where
 ok:A.Ok
 fin:∀n,n<A.steps.length->A.end n=sL (L n)
 step:∀n g t,n<A.steps.length->A.step n g=some t->L t=after (L n) g/\after (L n) g≠[]
 stop:∀n g,n<A.steps.length->A.step n g=none->after (L n) g=[]
 CQ:∀n,n<A.steps.length->(L n).Pairwise λa b=>a.1<b.1
 HE:∀n,n<A.steps.length->∀r∈L n,10<=r.2
theorem vq (b:(aD.map (·.1)).Nodup) (h:(p,a)∈aD):aD.lookup p=some a:=by
 refine qX (m_ h) λd e f=>?_;clear h;subst f
 rw [b_,eP] at b
 refine gS.mpr (nA d e rfl (λq g=>?_))
 rw [bne_iff_ne]
 exact λc=>b.2.2 _ (fC g) p (.head _) c.symm
theorem zm (g:a7.Pairwise λa b=>a.1<b.1) (c:∀r∈a7,10<=r.2):a7.filter (λr=>r.1.isEmpty)=if sL a7= -1 then [] else [([],sL a7)]:=by
 induction a7 using ej with
 |nil=>rfl
 |cons r a7=>
  obtain ⟨w,l⟩:=r
  have d:a7.filter (λr=>r.1.isEmpty)=[]:=jA.mpr λq e h=>by
   have f:=(jb.mp g).1 q e
   rw [p_.mp h] at f
   exact OC _ f
  clear g;induction w using ej with
  |nil=>
   have:sL (([],l)::a7)=l:=rfl
   have c:=c _ (.head _)
   rw [this,if_neg λq=>by rw [show l= -1 from q] at c;exact absurd c (by decide),k8 rfl,d]
  |cons x w=>
   have:sL ((x::w,l)::a7)= -1:=by
    unfold sL
    rw [GJ gL,jL.mpr λq e h=>jA.mp d q e h];rfl
   rw [this,if_pos rfl,k9 gL,d]
variable {aq:Nat->List Row}
theorem tT.keys (G:tT r aq) (c:a<r.steps.length):(∀g w l,(g::w,l)∈aq a->g∈(r.at a).map (·.1))/\∀g∈(r.at a).map (·.1),after (aq a) g≠[]:=by
 refine ⟨λg w l h=>gg λq=>?_,λg d=>?_⟩
 .have:r.step a g=none:=by
   induction b:r.step a g using d7 with
   |none=>rfl
   |some t=>exact absurd (nP.mp (by rw [show (r.at a).lookup g=some t from b];rfl)) q
  have:=G.stop a g c this
  rw [<-jU (bj:=(w,l)),this] at h
  exact (ee h).elim
 .have:=nP.mpr d
  induction b:r.step a g using d7 with
  |none=>rw [show (r.at a).lookup g=none from b] at this;contradiction
  |some t=>exact (G.step a g t c b).2
noncomputable def Kj (u:g9) (r:Row):Row:=(u++r.1,r.2)
noncomputable def US (p:Nat×g9):AV:=.tup [.int p.1,tI p.2]
noncomputable def FX (L:Nat->List Row) (S:List (Nat×g9)):List Row:=S.flatMap λp=>(L p.1).map (Kj p.2)
noncomputable def HJ (L:Nat->List Row) (S:List (Nat×g9)):Nat:=(S.map λp=>1+sz (L p.1)).sum
noncomputable def kids (A:Au) (n:Nat) (u:g9):List (Nat×g9):=(A.at n).map λp=>(p.2,u++[p.1])
theorem I4 (L:Nat->List Row) (S a:List (Nat×g9)):HJ L (S++a)=HJ L S+HJ L a:=by unfold HJ;rw [b_,qJ]
theorem I5 (L:Nat->List Row):∀(S:List (Nat×g9)),S.length<=HJ L S:=by
 intro b
 induction b with
 |nil=>
  exact eJ _
 |cons p S a=>
  show S.length+1<=1+sz (L p.1)+HJ L S
  rw [eY]
  exact fO (eg _ _) (a)
theorem tT.Nf (G:tT r aq) (c:a<r.steps.length) (b:di∈r.at a):r.step a di.1=some di.2/\aq di.2=after (aq a) di.1:=by
 have h:=vq (G.ok.rP a) (p:=di.1) (a:=di.2) b
 exact ⟨h,(G.step a di.1 di.2 c h).1⟩
theorem Ng (G:tT r aq) (b:a<r.steps.length) (u:g9):((aq a).map (Kj u)).Perm ((if r.end a= -1 then [] else [(u,r.end a)])++FX aq (kids r a u)):=by
 refine iK (G.keys b) λd f=>?_
 refine ((FW (G.ok.rP a) d).map (Kj u)).trans (.of_eq ?_)
 rw [b_,zm (G.CQ a b) (G.HE a b),<-G.fin a b]
 congr 1
 .by_cases h:r.end a= -1
  .rw [if_pos h,if_pos h];rfl
  .rw [if_neg h,if_neg h];show [(u++[],_)]=_;rw [eR]
 .unfold FX kids
  rw [N_,N_,List.map_flatMap]
  refine Ba λp e=>?_
  rw [(G.Nf b e).2,er]
  refine fk λc _=>?_
  show (u++p.1::c.1,c.2)=(u++[p.1]++c.1,c.2)
  rw [eC];rfl
theorem Nh (G:tT r aq) (b:a<r.steps.length) (u:g9):HJ aq (kids r a u)<=sz (aq a):=by
 refine iK (G.keys b) λd c=>?_
 refine a_ (gu ?_) (Nd (G.ok.rP a) d c)
 unfold HJ kids
 rw [er,er]
 exact congrArg _ (fk λp e=>by show 1+sz (aq p.2)=1+sz (after (aq a) p.1);rw [(G.Nf b e).2])
theorem RQ (d:Ev i e b g (.ref a)) (k:b a=some (.list (j++[.tup aN]))) (l:jN C (.tup aN) e=some bP) (f:2<=C.length) (h:∀c,Upd b c a (.list j)->jo PG i ah bP c ag):jo PG i (.cons (.ta C (.fL g 3 .nil)) ah) e b ag:=
 IW d k (.inr rfl) gP (.pop List.getLast?_concat (pf _ _ rfl l f (h _ (by rw [List.dropLast_concat];exact pq))))
theorem sj (h:mX b d r) (G:tT r aq) (P:(aq 0).length<=5) (H:sz (aq 0)<1000):Cl (eE PG (a+4)) (.fn 48) [.ref d] b (gN b ((aq 0).map ie)):=by
 refine jO [some (.ref d),none,none,none,none,none] (c_ _ _) rfl rfl λk hk R hR=>?_
 (injection hk with hk;subst hk)
 refine sG gP λc1 s1 n1=>sG (j:=[US (0,[])]) (iJ (g5 (iL dt (g5 gP)))) λc2 s2 x=>?_
 have C:=x.ne n1.at_
 refine oM (HJ aq [(0,[])]) (λN m g=>∃(S:List (Nat×g9)) (F:List Row) (w3 w4 j:Option AV),N=HJ aq S/\N<1001/\(∀p∈S,p.1<r.steps.length/\p.2.length+N<1001)/\(F++FX aq S).Perm (aq 0)/\eD b g/\i0 b g c1 (.list (F.map ie))/\i0 b g c2 (.list (S.map US))/\m=[some (.ref d),some (.ref c1),some (.ref c2),w3,w4,j])
  ⟨[(0,[])],[],_,_,_,rfl,?_,?_,?_,(b4 n1.le x.le),((n1.own (ec _)).le x.le),(x.own n1.le),rfl⟩ ?_
 .show 1+sz (aq 0)+0<1001
  rw [eY 1];exact ox H
 .intro p i
  cases dk.mp i
  exact ⟨G.ok.pos,by show 0+(1+sz (aq 0)+0)<1001;rw [eY 1,iW];exact ox H⟩
 .show ((aq 0).map (Kj [])++[]).Perm _
  rw [eR,show Kj []=id from rfl,Ia]
 .intro N m g kG K z;refine Ai kG λS F w3 w4 j kl A B i M f c kB=>?_;subst kl;subst kB
  refine ei _ (pv (RF rfl c.at_)) (λkO o=>⟨λZ=>?_,λZ=>?_⟩)
  .rcases List.eq_nil_or_concat S with rfl |⟨S,⟨q,u⟩,rfl⟩
   .contradiction
   rw [List.concat_eq_append] at B A i z c
   have hF:F.length<=5:=by
    have:=i.length_eq
    rw [bh] at this
    exact a_ (eg _ _) (this▸P)
   obtain ⟨E,T⟩:q<r.steps.length/\u.length+HJ aq (S++[(q,u)])<1001:=B (q,u) (by simp)
   have W:=Nh G E u
   have km:HJ aq (S++[(q,u)])=HJ aq S+(1+sz (aq q)):=I4 ..
   rw [km] at A T z
   have f:=f.le o
   have c:=c.le o
   rw [b_] at c
   refine RQ (a5 rfl) c.at_ (bP:=[some (.ref d),some (.ref c1),some (.ref c2),some (.int q),some (tI u),j]) rfl (eJ _) λkx O=>?_
   have f:=f.keep O C
   have c:=O.own (s0:=b) c.fr
   have I:=O.le (b4 M o) c.fr
   obtain ⟨dx,l,e,ds,t⟩:=h
   have kn:Ev (eE PG (a+3)) [some (.ref d),some (.ref c1),some (.ref c2),some (.int q),some (tI u),j] kx (.sub (.attr (.var 0) 55) (.var 3)) (.int (r.end q)):=fq (eO (a5 rfl) (I _ _ t.obj) rfl) (I _ _ t.ends) (a5 rfl) (vl G.ok E)
   refine yC (λm g=>eD b g/\i0 b g c1 (.list ((F++if r.end q= -1 then [] else [(u,r.end q)]).map ie))/\i0 b g c2 (.list (S.map US))/\m=[some (.ref d),some (.ref c1),some (.ref c2),some (.int q),some (tI u),j]) (λK' V=>yD (f9 (fU kn dt (ne_int rfl)) _ ?_)) ?_
   .by_cases X:r.end q= -1
    .rw [if_pos X,eR] at V
     rw [decide_eq_true X]
     exact V _ _ (uu I f c rfl)
    .rw [if_neg X] at V
     rw [decide_eq_false X]
     refine qD (a5 rfl) f.at_ (by rw [bb];exact rD hF) (g5 (iL (a5 rfl) kn)) λkH u5=>V _ _ (uu (u5.le I f.fr) ?_ (c.keep u5 C.symm) rfl)
     rw [b_];exact u5.own f.fr
   .intro m kH kz;refine wW kz λJ f c kl=>?_;subst kl
    refine eS (t.dict E) λkD hd ku=>?_
    have kq:∀s:List (Int×Nat),(dV s).map (·.1)=s.map λp=>AV.int p.1:=λs=>by unfold dV;rw [er];rfl
    refine oR (fq (eO (a5 rfl) (J _ _ t.obj) rfl) (J _ _ t.steps) (a5 rfl) hd) (iG (.dict kD _) (r.at q) (λp=>.int p.1) (λQ U=>vk (J _ _ ku) (nO _) (by rw [kq];exact U)) (λD m g=>eD b g/\i0 b g c1 (.list ((F++if r.end q= -1 then [] else [(u,r.end q)]).map ie))/\i0 b g c2 (.list ((S++D.map λp=>(p.2,u++[p.1])).map US))/\∃j,m=[some (.ref d),some (.ref c1),some (.ref c2),some (.int q),some (tI u),j])
     ⟨J,f,(by rw [pC,eR];exact c),_,rfl⟩ (λD m g h'=>(ei _ (h'.1 _ _ ku) (kq _))) ?_ ?_)
    .clear P H hR n1 x M o z A B i Z hF km O I kn J kq;intro D p r' m kJ hD kC K2 kI;refine Di m kC λy f c j=>?_
     have kF:=G.Nf E (mid hD)
     refine ei _ rfl (qD (a5 rfl) c.at_ ?_ (g5 (iL (sd (fq (eO (a5 rfl) (y _ _ t.obj) rfl) (y _ _ t.steps) (a5 rfl) hd) (y _ _ ku) (a5 rfl) (.inl ⟨⟨_,rfl⟩,nO _⟩) (rM kF.1)) (l:=.int p.2) (af:=tI (u++[p.1])) λQ U=>AN (a5 rfl) (g5 (iJ (a5 rfl))) ?_ _ (by rw [show tI (u++[p.1])= .tup (u.map .int++[.int p.1]) by unfold tI;rw [b_];rfl] at U;exact U))) λkN u7=>kI _ _ ⟨u7.le y c.fr,f.keep u7 C,?_,_,rfl⟩)
     .have h1:=I5 aq S
      have h2:=I5 aq (kids r q u)
      unfold kids at h2
      rw [bb,hD,bh,e_] at h2
      rw [bb,bh,bb]
      unfold kids at W
      rw [hD] at W
      exact Vm h1 h2 W T
     .rw [bb];unfold fE
      exact a_ (nS (c4 (eg _ _) T)) (by decide)
     .have:=u7.own (s0:=b) c.fr
      rw [b_ (l₁:=D),<-eC,b_ (l₁:=S++_)]
      exact this
    .intro m kJ ky;refine Di m ky λy f c j=>?_
     have Y:HJ aq (S++kids r q u)<HJ aq S+(1+sz (aq q)):=by rw [I4];exact rv (c4 W (Nat.lt_add_of_pos_left j9)) _
     refine z _ _ _ Y ⟨(S++kids r q u),_,_,_,_,rfl,(gF Y A),(λp L=>?_),?_,y,f,c,rfl⟩
     .rcases eF.mp L with L |L
      .have:=B p (fQ _ L)
       exact ⟨this.1,gF (rv Y _) (by rw [<-km];exact this.2)⟩
      .refine iQ p (ck.mp L) λe he=>?_
       refine ⟨G.ok.M' he,?_⟩
       show (u++[e.1]).length+_<_
       rw [bh,fI]
       refine c4 (d5 ?_ _) T
       rw [eY];exact Y
     .refine Ic ?_ i
      have e1:∀S S',FX aq (S++S')=FX aq S++FX aq S':=λS S'=>kA
      rw [e1,e1,eC]
      refine B' _ ?_
      have e2:FX aq [(q,u)]=(aq q).map (Kj u):=List.flatMap_singleton ..
      rw [e2]
      refine Ic ?_ (B' _ (Ng G E u).symm)
      rw [<-eC,<-eC]
      exact WC _ List.perm_append_comm
  .have kK:S=[]:=by
    clear h G P H hR n1 x C z A B i M f c o;induction S using ej with
    |nil=>rfl
    |cons p S=>contradiction
   clear h H n1 x C c z A B Z;subst kK
   rw [show FX aq []=[] from rfl,eR] at i
   exact sh (gw dt (iJ (a5 rfl)) (A0 (a:=a+2) (f7 (o _ _ f.at_)) (by rw [i.length_eq];exact P) i.symm (G.CQ 0 G.ok.pos))) λkM kx l4 hv=>hR _ _ _ (b4 M (b4 o l4)) (hv.mono (b4 M o))
section
section
variable {α γ:Type} (k:α->Int) (x:α->γ)
noncomputable def HN (V:List α):List (Int×List γ):=V.foldl (λT r=>xG T (k r) (x r)) []
theorem uS (V:List α) (r:α):HN k x (V++[r])=xG (HN k x V) (k r) (x r):=by unfold HN;rw [iS];rfl
variable {k x}
theorem snoc_ind {C:List α->Prop} (h0:C []) (h1:∀V r,C V->C (V++[r])) (V:List α):C V:=by
 rw [<-List.reverse_reverse V]
 induction V.reverse with
 |nil=>exact h0
 |cons r V ih=>rw [nI];exact h1 _ _ ih
theorem I6 (V:List α):((HN k x V).map λp=>p.2.length).sum=V.length:=by
 induction V using snoc_ind with
 |h0=>rfl
 |h1 V r ih=>
 rw [uS,FP,ih,bh];rfl
theorem Ni (V:List α):∀p∈HN k x V,0<p.2.length:=by
 induction V using snoc_ind with
 |h0=>exact (by intros;contradiction)
 |h1 V r ih=>
 intro p hp
 rw [uS] at hp
 rcases vo hp with hp |⟨_,l,e,_⟩
 .exact ih p hp
 .rw [e,bh];exact fz _
theorem sM (V:List α):((HN k x V).map (·.1)).Nodup/\∀g,g∈(HN k x V).map (·.1)↔∃r∈V,k r=g:=by
 induction V using snoc_ind with
 |h0=>exact ⟨eI,λg=>⟨(by intros;contradiction),λzf=>eS zf λr h _=>nomatch h⟩⟩
 |h1 V r ih=>
 rw [uS,yB]
 by_cases h:k r∈(HN k x V).map (·.1)
 .rw [if_pos h]
  refine ⟨ih.1,λg=>(ih.2 g).trans ⟨λzf=>eS zf λq h e=>(ei q (fQ _ h) e),λζ=>?_⟩⟩
  refine eS ζ λq hq e=>?_
  rcases eF.mp hq with hq |hq
  .exact ei q hq e
  .rw [dk.mp hq] at e
   exact (ih.2 g).mp (e▸h)
 .rw [if_neg h]
  refine ⟨eP.mpr (iz ih.1 (eT.mpr ⟨ee,eI⟩) (λa ha b hb q=>h (by rw [<-dk.mp hb,<-q];exact ha))),λg=>?_⟩
  rw [eF,ih.2,dk]
  constructor
  .rintro (⟨q,hq,e⟩ |rfl)
   .exact ei q (fQ _ hq) e
   .exact ei r (fS _ (.head _)) rfl
  .intro zr1;refine eS zr1 λq hq e=>?_
   rcases eF.mp hq with hq |hq
   .exact .inl (ei q hq e)
   .rw [dk.mp hq] at e;exact .inr e.symm
theorem D4 (V:List α):∀p∈HN k x V,p.2=(V.filter λr=>decide (k r=p.1)).map x:=by
 induction V using snoc_ind with
 |h0=>exact (by intros;contradiction)
 |h1 V r ih=>
 intro p hp
 rw [uS] at hp
 rw [xY,b_]
 have hn:=(sM (k:=k) (x:=x) V)
 by_cases h:k r=p.1
 .rw [k8 (p:=λr=>decide (k r=p.1)) (decide_eq_true h)]
  by_cases hm:k r∈(HN k x V).map (·.1)
  .refine yb (yA hm) λT1 l T2 e hnm=>?_
   rw [e,FN hnm] at hp
   rw [e,b_,eG,eP,eT] at hn
   have hl:=ih (k r,l) (by rw [e];simp)
   rcases eF.mp hp with hp |hp
   .exact absurd (h▸fC hp) hnm
   .rcases eK.mp hp with rfl |hp
    .exact congrArg (·++[x r]) hl
    .exact absurd (ck.mpr (ei p hp h.symm)) hn.1.2.1.1
  .rw [FO hm] at hp
   have e0:V.filter (λr=>decide (k r=p.1))=[]:=jA.mpr λq hq h2=>hm ((hn.2 _).mpr (ei q hq ((of_decide_eq_true h2).trans h.symm)))
   rw [e0]
   rcases eF.mp hp with hp |hp
   .exact absurd (h▸fC hp) hm
   .rw [dk.mp hp];rfl
 .rw [k9 (p:=λr=>decide (k r=p.1)) (by rw [decide_eq_false h];exact gL),List.filter_nil,pC,eR]
  rcases vo hp with hp |⟨e,_⟩
  .exact ih p hp
  .exact absurd e.symm h
end
theorem PM:∀{T:List (Int×List h)},(∀p∈T,0<p.2.length)->T.length<=(T.map λp=>p.2.length).sum:=by
 intro c
 induction c with
 |nil=>
  intro _
  exact eJ _
 |cons p T b=>
  intro a
  rw [eG,jC,e_,eY]
  exact fO (a p (.head _)) (b λq d=>a q (.tail _ d))
noncomputable def rQ (r:Row):Int:=r.1.headD 0
noncomputable def xJ (r:Row):Row:=(r.1.drop 1,r.2)
noncomputable def tabOf (V:List Row):Table:=HN rQ xJ V
noncomputable def z1 (V:List Row):List (Int×List g9):=HN (·.2) (·.1) V
noncomputable def Sr (a b:Row):Prop:=b.1.length<a.1.length\/(a.1.length=b.1.length/\a.1<b.1)
theorem HO {f:Row->Int} {x:Row->h} (d:strip dU=HN f x a7) (c:a7.length<fE):dU.length<fE/\∀e∈dU,e.2.2.length<fE:=by
 have a:=PM (T:=strip dU) (by rw [d];exact Ni a7)
 have b:((strip dU).map λp=>p.2.length).sum=a7.length:=by rw [d];exact I6 a7
 rw [b] at a
 refine ⟨c4 (by unfold strip at a;rw [bb] at a;exact a) c,λe g=>c4 (A5 (ck.mpr ⟨(e.1,e.2.2),ck.mpr ⟨e,g,rfl⟩,rfl⟩)) (b▸c)⟩
theorem Bb {f:Row->Int} {x:Row->h} {J:MM->Prop} (hb:bg= .cons (.ex (.fL (.fL g 2 (.cons D (.cons (.lst .nil) .nil))) 0 (.cons aL .nil))) .nil) (hl:a7.length<fE) (y:b o=none) (Y:q o=some (.dict [])) (B:b I=some (.list (a7.map ie))) (H:eD b q) (p:J e) (hm:∀e,J e->∀k∈a7,∃j,jN [a,d] (ie k) e=some j/\J j/\∀q,Ev i j q g (.ref o)/\Ev i j q D (.int (f k))/\Ev i j q aL (dE (x k))) (kl:∀e E c,J e->ML dE b c o E->strip E=HN f x a7->eD b c->jo PG i ah e c ag):MW i [a,d] bg ah ag e (.ref I) q:=by
 subst hb
 refine iG (.list I _) a7 ie (λQ=>gH (H _ _ B)) (λg e c=>eD b c/\J e/\∃E,ML dE b c o E/\strip E=HN f x g) ⟨H,p,[],⟨Y,y,(by intros;contradiction),eI⟩,rfl⟩ (λ_ _ _ u=>u.1 _ _ B) ?_ λe c O=>Dj O λw r E l t=>kl e E c r l t w
 intro g k r' e C G S K Z;refine Dj S λL p E V A=>?_
 refine gi (hm e p k (mid G)) λj w r l=>?_
 refine iK (HO A (c4 (by rw [G,bh];exact eg _ _) hl)) λX b2=>?_
 have W:∀s:AS,eD b s->∀I,s I=none->b I=none:=λs u I=>jE u
 refine ei j w (I1 (P:=λz q=>z=x k/\eD b q) V (W _ L) X b2 (l C).1 (l C).2.1 (λv t Q T=>(l v).2.2 _ (T (x k) v (λ_ _=>rfl) ⟨rfl,λbg n m=>t bg n (λz=>by rw [z,y] at m;contradiction) (L bg n m)⟩)) λz N v km F R M U=>Z _ _ ⟨λbg n m=>(R bg n m).trans (F.2 bg n m),r,N,M,?_⟩)
 rw [U,A,F.1,uS]
theorem Bc (h:mX b d r) (G:tT r aq) (B:(aq 0).length<=5) (O:sz (aq 0)<1000) (K:∀g E i,eD b i->ML tI b i g E->strip E=z1 (aq 0)->n (.ref g) i):Cl (eE PG (a+5)) (.fn 50) [.ref d] b n:=by
 refine jO [some (.ref d),none,none,none] (c_ _ _) rfl rfl λk p R F=>?_
 (injection p with p;subst p)
 refine zk λg Q n1=>rd (gw dt (iJ (a5 rfl)) (sj (a:=a) (h.le n1.le) G B O)) λv P C H=>?_
 refine jj v H λc s=>?_
 have M:g≠c:=λq=>by have:=n1.at_;rw [q,s.fr] at this;contradiction
 have l:eD b (b.set c (.list ((aq 0).map ie))):=mU (jE n1.le s.fr)
 refine Bb (b:=b.set c (.list ((aq 0).map ie))) (o:=g) (f:=(·.2)) (x:=(·.1)) (dE:=tI) (J:=λm=>∃t u,m=[some (.ref d),some (.ref g),t,u]) rfl (rD B) (by rw [gv M];exact n1.fr) (C _ _ n1.at_) (gW _ _ _) (λN o e=>?_) ⟨_,_,rfl⟩ ?_ ?_
 .by_cases w:N=c
  .rw [w,gW] at e;rw [w,<-e];exact s.at_
  .rw [gv w] at e;exact C _ _ (n1.le _ _ e)
 .intro m L q _;refine Lk m L λt u=>?_
  exact gq [some (.ref d),some (.ref g),some (tI q.1),some (.int q.2)] rfl ⟨_,_,rfl⟩ (λb=>⟨a5 rfl,a5 rfl,a5 rfl⟩)
 .intro m E i I j D z;refine Lk m I λt u=>?_
  exact iM (a5 rfl) (F _ _ _ (b4 l z) (K g E i (b4 l z) ⟨j.dict,jE l j.fr,λe A=>⟨(j.ls e A).1,jE l (j.ls e A).2⟩,j.nd⟩ D))
end
noncomputable def keyOf:AV->AV
 | .tup (.tup w::_)=>.tup [.int (-(w.length:Int)),.tup w]
 |_=>.none
theorem I7 (h:Sr bj cM):Lt (keyOf (ie bj)) (keyOf (ie cM)):=by
 show Lt (.tup [.int (-((bj.1.map AV.int).length:Int)),tI bj.1]) (.tup [.int (-((cM.1.map AV.int).length:Int)),tI cM.1])
 rw [bb,bb]
 rcases h with h |⟨a,b⟩
 .exact .tup [] _ _ _ _ (.int (Int.neg_lt_neg (h9.mpr h)))
 .rw [a];exact .tup [.int (-(cM.1.length:Int))] _ _ [] [] (DW [] b)
theorem PN (r:Row):oN 4 (keyOf (ie r)):=.tup _ _ λx a=>by
 cases a with
 |head=>exact .int _ _
 |tail _ a=>
  cases a with
  |head=>exact DX 2 _
  |tail _ a=>exact (ee a).elim
theorem Nj (p:Al i e b g (gN b (a7.map ie))) (o:a7.length<=5) (j:aQ.Perm a7) (f:aQ.Pairwise Sr) (w:∀r l,Ev i [some (ie r)] l D (keyOf (ie r))):Al i e b (.ER g D) (gN b (aQ.map ie)):=λQ u=>by
 refine p _ λv t k n=>?_
 refine jj v n λc m=>?_
 refine f7 m.at_ _ ⟨(by rw [bb];exact c4 o (by decide)),keyOf,(λx a z y=>?_),(.inr λx a=>?_),?_,(aQ.map ie),(j.map _),?_,(λc2 d=>u _ _ (b4 k (mU d.1)) ⟨c2,rfl,(fM d).own k⟩)⟩
 .refine eS (ck.mp a) λq _ s=>?_;subst s
  exact w q t _ y
 .rw [er] at a
  refine iQ x (ck.mp a) λq _=>?_
  exact ⟨(PN q),_,_,rfl⟩
 .exact (j.map ie).pairwise (gh.mpr (f.imp λh=>.inl (I7 h))) λh=>h.symm
 .exact gh.mpr (f.imp λh=>I7 h)
theorem BZ (h:mX b d r) (G:tT r aq) (D:(aq 0).length<=5) (hz:sz (aq 0)<1000) (I:∀T∈aq 0,T.1≠[]) (s:a7.Perm (aq 0)) (N:a7.Pairwise Sr) (X:∀t i p E j,eD b j->j t=some (.inst 5 p [(54,.ref i)])->kj j i E->strip E=tabOf a7->n (.ref t) j):Cl (eE PG (a+5)) (.fn 49) [.ref d] b n:=by
 refine jO [some (.ref d),none,none,none] (c_ _ _) rfl rfl λkl u R O=>?_
 (injection u with u;subst u)
 refine zk λi s1 n1=>rd (Nj (gw dt (iJ (a5 rfl)) (sj (a:=a) (h.le n1.le) G D hz)) D s N λq j=>g5 (iL (wo (jd (pk (a:=0) (a5 rfl) dt rfl) λ_ h=>.tup h)) (pk (a:=0) (a5 rfl) dt rfl))) λv s2 l A=>?_
 refine jj v A λc z=>?_
 have Y:i≠c:=λq=>by have:=n1.at_;rw [q,z.fr] at this;contradiction
 have K:eD b (b.set c (.list (a7.map ie))):=mU (jE n1.le z.fr)
 refine Bb (b:=b.set c (.list (a7.map ie))) (o:=i) (f:=rQ) (x:=xJ) (dE:=ie) (J:=λm=>∃B F,m=[some (.ref d),some (.ref i),B,F]) rfl (rD (s.length_eq▸D)) (by rw [gv Y];exact n1.fr) (l _ _ n1.at_) (gW _ _ _) (λZ o e=>?_) ⟨_,_,rfl⟩ ?_ ?_
 .by_cases H:Z=c
  .rw [H,gW] at e;rw [H,<-e];exact z.at_
  .rw [gv H] at e;exact l _ _ (n1.le _ _ e)
 .intro m S q V;refine Lk m S λB F=>?_
  refine gq [some (.ref d),some (.ref i),some (tI q.1),some (.int q.2)] rfl ⟨_,_,rfl⟩ (λb=>⟨a5 rfl,?_,g5 (iL (AX (a:=1) (a5 rfl) dt) (a5 rfl))⟩)
  refine qX (gf (I q (s.mem_iff.mp V))) λg w e=>?_
  refine pk (j:=q.1.map .int) (a:=0) (a5 rfl) dt ?_
  unfold rQ;rw [e];rfl
 .intro m E j U hE M L;refine Lk m U λB F=>?_
  exact sh (n:=n) (gw dt (iJ (a5 rfl)) λQ W=>tr (c_ 4 a) λt p C fd I=>W _ _ (mU C.1) (X t i p E _ (b4 (b4 K L) (mU C.1)) (gW _ _ _) (hE.tab.le (mU C.1)) M)) λv km l A=>O _ _ _ (b4 (b4 K L) l) A
inductive Bd (s0 st:AS) (f t:Nat) (held:List Int):Prop where
 |mk (dx l:Nat) (h0:st f=some (.inst 7 dx [(56,.ref t),(57,.ref l)])) (h1:st l=some (.list (held.map .int))) (h2:s0 f=none) (h3:s0 l=none):Bd s0 st f t held
theorem tE (f:eD b q) (g:eD q ax) (c:i0 q ax a ay):eD b (b.set a ay)/\eD (b.set a ay) ax:=by
 refine ⟨mU (jE f c.fr),λx h e=>?_⟩
 by_cases d:x=a
 .subst d;rw [gW] at e;rw [<-e];exact c.at_
 .rw [gv d] at e;exact g _ _ (f _ _ e)
theorem Bd.with (h:Bd b q a d a8) (j:eD q ax) (n:i0 q ax o ay):Bd (b.set o ay) ax a d a8:=by
 obtain ⟨m,l,g,f,p,r⟩:=h
 have i:∀c k,q c=some k->b c=none->(b.set o ay) c=none:=λc k e t=>(gv λs=>by rw [s,n.fr] at e;contradiction).trans t
 exact ⟨m,l,j _ _ g,j _ _ f,i _ _ g p,i _ _ f r⟩
theorem Bd.base (h:Bd q ax a d a8) (c:eD b q):Bd b ax a d a8:=let ⟨e,l,i,f,g,j⟩:=h;⟨e,l,i,f,jE c g,jE c j⟩
theorem vr (h:(b.set a ay) d=none):d≠a/\b d=none:=by
 have c:d≠a:=λq=>by rw [q,gW] at h;contradiction
 exact ⟨c,by rwa [gv c] at h⟩
theorem Bd.upd {t:Nat} {o:AO} (h:Bd (b.set d o) q a t a8) (s:eD (b.set d o) q) (u:Upd q ax d ay):Bd (b.set d ay) ax a t a8/\eD (b.set d ay) ax:=by
 obtain ⟨j,l,n,k,m,p⟩:=h
 have f:=vr m
 have g:=vr p
 refine ⟨⟨j,l,(u.ne a f.1).trans n,(u.ne l g.1).trans k,(gv f.1).trans f.2,(gv g.1).trans g.2⟩,λi r e=>?_⟩
 by_cases c:i=d
 .rw [c,gW] at e;rw [c,<-e];exact u.at_
 .rw [gv c] at e;exact (u.ne i c).trans (s i r ((gv c).trans e))
theorem I8 (t:mX q o r) (w:r.Ok) (h:Bd b q d o a8) (k:eD b q) (x:0<a8.length) (v:a8.length<=10000) (p:∀f,eD b f->Bd b f d o (a8.drop (fX [r] a8).1)->n (.int (fX [r] a8).2) f):eE PG (a+6) (.fn 56) [.ref d] q n:=by
 obtain ⟨g,l,j,m,i,y⟩:=h
 refine FF (c_ _ _) ⟨j,m,t,w⟩ x v λe u=>?_
 have n1:=fM (ay:=.list ((a8.drop (fX [r] a8).1).map .int)) u
 have u2:=pq (b:=q.set e (.list ((a8.drop (fX [r] a8).1).map .int))) (a:=d) (ay:=.inst 7 g [(56,.ref o),(57,.ref e)])
 have s:=u2.le (b4 k n1.le) i
 exact p _ s ⟨g,e,u2.at_,(u2.ne e (n1.ne j).symm).trans n1.at_,i,jE k n1.fr⟩
theorem I9 (h:Ev i e b (.attr g a) (.ref d)) (f:b d=some (.list j)):Tv i e b (.attr g a) (!j.isEmpty):=λQ c=>h _ (ei _ (.list f) c)
noncomputable def QL (X:Ak) (a:Nat) (r:w') (T:Fl->MM->AS->Prop) (m:MM) (v:AV) (st:AS):Prop:=∃xs,st a=some (.list xs)/\y6 a xs st (λ_ st=>jo PG X r m st T) 0 [v]
theorem Nk (d:b a=some (.list j)) (f:j.length<fE) (h:∀c,Upd b c a (.list (j++[l]))->jo PG i ah e c ag):QL i a ah ag e l b:=ei _ d (.app f (h _ pq))
theorem Nl (c:Ev i e b g (.ref a)) (f:b a=some (.list j)) (h:VE PG i D e b λv d=>QL i a ah ag e v d):jo PG i (.cons (.ex (.fL g 0 (.cons D .nil))) ah) e b ag:=c _ (.list f (.inl rfl) h)
theorem add_lists (k:b a=some (.list j)) (f:b d=some (.list aN)) (i:j.length+aN.length<=fE) (h:∀c e,sg b e c (.list (j++aN))->n (.ref c) e):Aj b n .add (.ref a) (.ref d):=.app k f i λc g=>h c _ (fM g)
theorem sN (a:List Int->Nat×Int) (b:∀a8,0<a8.length->0<(a a8).1) (c:0<a8.length):iF a a8.length a8=(a a8).2::iF a (a8.drop (a a8).1).length (a8.drop (a a8).1):=by
 induction a8 using ej with
 |nil=>contradiction
 |cons g a8=>
  show (a (g::a8)).2::iF a a8.length _=_
  rw [vm a b a8.length]
  have:=b (g::a8) c
  rw [ey,e_];exact j8 (d5 this _)
theorem p6 (A:Au):∀s:List Int,0<s.length->0<(fX [A] s).1:=λs a=>(q9 [A] a).2
theorem FY (D:mX b o r) (G:r.Ok) (h:Bd b q d o a8) (x:eD b q) (F:a8.length<=10000) (I:∀c i,eD b i->i0 b i c (.list ((iF (fX [r]) a8.length a8).map .int))->n (.ref c) i):eE PG (a+8) (.fn 58) [.ref d] q n:=by
 refine gO [some (.ref d),none] (c_ 2 _) rfl rfl (sG gP λc s1 n1=>?_)
 have H:=tE x n1.le (n1.own (ec _))
 refine oM a8.length (λN m i=>∃e f,N=e.length/\m=[some (.ref d),some (.ref c)]/\Bd (b.set c (.list (f.map .int))) i d o e/\eD (b.set c (.list (f.map .int))) i/\f.length+e.length<=10000/\f++iF (fX [r]) e.length e=iF (fX [r]) a8.length a8)
  (nX a8 [] rfl rfl (h.with n1.le (n1.own (ec _))) H.2 (by rw [qK,iW];exact F) rfl) ?_
 intro N m i M K E;refine iP M λe f X Y B z k w=>?_;clear M;subst X;subst Y
 have v:b c=none:=jE x n1.fr
 obtain ⟨S,l,p,y,A,C⟩:=id B
 refine ei _ (pv (I9 (eO (a5 rfl) p rfl) y)) (λP j=>⟨λJ=>?_,λJ=>?_⟩)
 .have u:0<e.length:=by
   clear D G h x F I n1 H E B z k w v p y A C j;induction e using ej with
   |nil=>contradiction
   |cons g s=>exact fz _
  have V:Bd (b.set c (.list (f.map .int))) P d o e:=⟨S,l,j _ _ p,j _ _ y,A,C⟩
  have t:=b4 z j
  have T:=t _ _ (gW b c _)
  refine Nl (a5 rfl) T (jr (a5 rfl) (j _ _ p) rfl rfl rfl gP (I8 (a:=a+1) (D.le (b4 (mU v) t)) G V t u (a_ (c_ _ _) k) λkl O W=>?_))
  refine Nk (O _ _ (gW b c _)) (by rw [bb];exact c4 (a_ (eg _ _) k) (by unfold fE;decide)) λkm U=>?_
  have Z:=p6 r e u
  refine iK (W.upd O U) λQ R=>?_
  have e1:f.map AV.int++[.int (fX [r] e).2]=(f++[(fX [r] e).2]).map .int:=by rw [b_];rfl
  rw [e1] at Q R
  have L:(e.drop (fX [r] e).1).length<e.length:=by rw [ey];exact kf u Z
  refine E _ _ _ L (nX _ _ rfl rfl Q R ?_ ?_)
  .rw [bh]
   exact a_ (a_ (gu (fI _ _ _)) (d5 (by rw [eY];exact L) _)) k
  .rw [eC,<-w,sN _ (p6 r) u];rfl
 .have u:e=[]:=by
   clear D G h x F I n1 H E B z k w v p y A C j;induction e using ej with
   |nil=>rfl
   |cons g s=>contradiction
  clear D G h x F n1 H E B k p y A C J;subst u
  rw [show iF (fX [r]) ([]:List Int).length []=[] from rfl,eR] at w
  rw [w] at z
  have t:=b4 z j
  exact iM (a5 rfl) (ei _ (ec _) (I c P (b4 (mU v) t) ⟨t _ _ (gW _ _ _),v⟩))
noncomputable def jx (A:Au):Nat->List Int->List Int×List Int
 |0,h=>([],h)
 |_+1,[]=>([],[])
 |f+1,g::s=>if jF A 0 (g::s) then ([],g::s) else ((fX [A] (g::s)).2::(jx A f ((g::s).drop (fX [A] (g::s)).1)).1,(jx A f ((g::s).drop (fX [A] (g::s)).1)).2)
theorem wz (A:Au):∀(f:Nat) (s:List Int),s.length<=f->jx A f s=jx A s.length s
 |0,[],_=>rfl
 |f+1,[],_=>rfl
 |f+1,g::s,h=>by
  have b:=p6 A (g::s) (fz _)
  have a:((g::s).drop (fX [A] (g::s)).1).length<=s.length:=by rw [ey];exact eX (kf (fz _) b)
  show (if _ then _ else _)=(if _ then _ else _)
  rw [wz A f _ (a_ a (gY h)),wz A s.length _ a]
theorem vt (b:0<a8.length):jx r a8.length a8=if jF r 0 a8 then ([],a8) else ((fX [r] a8).2::(jx r (a8.drop (fX [r] a8).1).length (a8.drop (fX [r] a8).1)).1,(jx r (a8.drop (fX [r] a8).1).length (a8.drop (fX [r] a8).1)).2):=by
 induction a8 using ej with
 |nil=>contradiction
 |cons g a8=>
  have a:=p6 r (g::a8) (fz _)
  show (if _ then _ else ((fX [r] (g::a8)).2::(jx r a8.length _).1,(jx r a8.length _).2))=_
  rw [wz r a8.length ((g::a8).drop (fX [r] (g::a8)).1) (by rw [ey];exact eX (kf (fz _) a))]
theorem Kk (E:mX b o r) (G:r.Ok) (h:Bd b q d o a8) (P:eD b q) (F:a8.length<10000) (B:∀c j,eD b j->i0 b j c (.list ((jx r (a8.length+1) (a8++[p])).1.map .int))->Bd b j d o (jx r (a8.length+1) (a8++[p])).2->n (.ref c) j):eE PG (a+8) (.fn 57) [.ref d,.int p] q n:=by
 have H:a8.length+1=(a8++[p]).length:=by rw [bh];rfl
 rw [H] at B
 obtain ⟨J,l,g,i,x,v⟩:=h
 refine gO [some (.ref d),some (.int p),none] (c_ 2 _) rfl rfl (qD (eO (a5 rfl) g rfl) i (by rw [bb];exact gF F (by unfold fE;decide)) (a5 rfl) λs1 u1=>sG gP λc s2 k=>?_)
 have D:=u1.le P v
 have L:Bd b s1 d o (a8++[p]):=⟨J,l,(u1.ne d λkl=>by rw [kl,i] at g;(injection g;contradiction)).trans g,by rw [u1.at_,b_];rfl,x,v⟩
 have Q:=tE D k.le (k.own (ec _))
 have y:b c=none:=jE D k.fr
 refine oM (a8++[p]).length (λN m j=>∃e t,N=e.length/\m=[some (.ref d),some (.int p),some (.ref c)]/\Bd (b.set c (.list (t.map .int))) j d o e/\eD (b.set c (.list (t.map .int))) j/\t.length+e.length<=10000/\t++(jx r e.length e).1=(jx r (a8++[p]).length (a8++[p])).1/\(jx r e.length e).2=(jx r (a8++[p]).length (a8++[p])).2)
  ⟨(a8++[p]),[],rfl,rfl,(L.with k.le (k.own (ec _))),Q.2,(by rw [<-H,qK,iW];exact F),rfl,rfl⟩ ?_
 intro N m j kn K O;refine Ah kn λe t ku kx M I w z A=>?_;subst ku;subst kx
 obtain ⟨J,l,g,i,x,v⟩:=id M
 refine ei _ (DU (pv (I9 (eO (a5 rfl) g rfl) i)) λ_ T f=>yy (MV (aw:=jF r 0 e) λn B=>jr (a5 rfl) (f _ _ g) rfl rfl rfl gP (DT (c_ 5 _) ⟨f _ _ g,f _ _ i,E.le (b4 (mU y) (b4 I f)),G⟩ (B _ _ (ec _) rfl)))) (λT f=>⟨λu=>?_,λu=>?_⟩)
 .rw [eV,fK,fK] at u
  have R:0<e.length:=by
   clear E G P F B H u1 k D L Q y O M I w z A g i x v f;induction e using ej with
   |nil=>injection u.1
   |cons p U=>exact fz _
  have km:Bd (b.set c (.list (t.map .int))) T d o e:=⟨J,l,f _ _ g,f _ _ i,x,v⟩
  have C:=b4 I f
  have Z:=C _ _ (gW b c _)
  refine Nl (a5 rfl) Z (jr (a5 rfl) (f _ _ g) rfl rfl rfl gP (I8 (a:=a+1) (E.le (b4 (mU y) C)) G km C R (a_ (c_ _ _) w) λky W kq=>?_))
  refine Nk (W _ _ (gW b c _)) (by rw [bb];exact c4 (a_ (eg _ _) w) (by unfold fE;decide)) λkz u4=>?_
  have hp:=p6 r e R
  refine iK (kq.upd W u4) λX Y=>?_
  have e1:t.map AV.int++[.int (fX [r] e).2]=(t++[(fX [r] e).2]).map .int:=by rw [b_];rfl
  rw [e1] at X Y
  have V:(e.drop (fX [r] e).1).length<e.length:=by rw [ey];exact kf R hp
  rw [vt R,u.2] at z A
  refine O _ _ _ V ⟨_,_,rfl,rfl,X,Y,?_,(by rw [eC];exact z),A⟩
  rw [bh]
  exact a_ (a_ (gu (fI _ _ _)) (d5 (by rw [eY];exact V) _)) w
 .have S:jx r e.length e=([],e):=by
   clear E G P F B H u1 k D L Q y O M I w z A g i x v f;induction e using ej with
   |nil=>rfl
   |cons p U=>
    rw [vt (a8:=p::U) (fz _)]
    have:jF r 0 (p::U)=true:=by
     rw [Bool.and_eq_false_iff] at u
     exact u.elim (λh=>by contradiction) λh=>by rwa [jM] at h
    rw [this];rfl
  rw [S,eR] at z
  rw [S] at A
  clear E G P F H u1 k D L Q O M w u S;subst z A
  have C:=b4 I f
  exact iM (a5 rfl) (ei _ (ec _) (B c T (b4 (mU y) C) ⟨C _ _ (gW _ _ _),y⟩ ⟨J,l,f _ _ g,f _ _ i,(vr x).2,(vr v).2⟩))
noncomputable def kk (A:Au) (gs:List Int):List Int×List Int:=gs.foldl (λp g=>(p.1++(jx A (p.2.length+1) (p.2++[g])).1,(jx A (p.2.length+1) (p.2++[g])).2)) ([],[])
theorem vu (A:Au) (d:List Int) (g:Int):kk A (d++[g])=((kk A d).1++(jx A ((kk A d).2.length+1) ((kk A d).2++[g])).1,(jx A ((kk A d).2.length+1) ((kk A d).2++[g])).2):=by
 unfold kk;rw [iS];rfl
theorem CR (A:Au):∀(f:Nat) (s:List Int),(jx A f s).1.length+(jx A f s).2.length<=s.length
 |0,s=>by show 0+s.length<=_;rw [iW];exact eJ _
 |f+1,[]=>eJ _
 |f+1,g::s=>by
  show (ite _ _ _:List Int×List Int).1.length+(ite _ _ _:List Int×List Int).2.length<=_
  induction jF A 0 (g::s) using j5 with
  |true=>show 0+_<=_;rw [iW];exact eJ _
  |false=>
   have ih:=CR A f ((g::s).drop (fX [A] (g::s)).1)
   have h1:=p6 A (g::s) (fz _)
   show (jx A f _).1.length+1+(jx A f _).2.length<=_
   rw [ey] at ih
   rw [gZ]
   exact a_ (fg ih) (kf (fz _) h1)
theorem Be (A:Au) (a:List Int):(kk A a).1.length+(kk A a).2.length<=a.length:=by
 induction a using snoc_ind with
 |h0=>exact eJ _
 |h1 d g b=>
  rw [vu,bh,bh,fI]
  refine a_ (d5 (CR _ _ _) _) ?_
  rw [bh,<-fI]
  exact gz b _
theorem FZ (a:List Int->Nat×Int):∀(f:Nat) (s:List Int),(iF a f s).length<=f
 |0,_=>eJ _
 |_+1,[]=>ft _
 |f+1,g::s=>fg (FZ a f _)
theorem HP (h:∀f i,eD b i->Bd b i f d []->n (.ref f) i):eE PG (a+4) (.cls 7) [.ref d] b n:=by
 refine zZ rfl λm g s n1=>gO [some (.ref m),some (.ref d)] (c_ 2 _) rfl rfl (iq (a5 rfl _ (i8 (o:=7) (I:=g) (aS:=[]) (a5 rfl) n1.at_ λr u2=>iq (si gP λl q e=>i8 (o:=7) (I:=g) (aS:=[(56,.ref d)]) (a5 rfl) (e.le _ _ u2.at_) λp j=>(gq _ (ec _) rfl ?_)))))
 have k:=u2.le n1.le n1.fr
 have o:=e.ne u2.at_
 exact h m p (j.le (b4 k e.le) n1.fr) ⟨g,l,j.at_,(j.ne l o.symm).trans e.at_,n1.fr,jE k e.fr⟩
theorem xK (a:aw=decide (aB<p)) (Q:Bool->Prop) (c:Q aw):pV b Q .gt (.int p) (.int aB):=.ord (congrArg some a.symm) c
theorem D5 (a:aw=decide (aB<=p)) (Q:Bool->Prop) (c:Q aw):pV b Q .ge (.int p) (.int aB):=.ord (congrArg some a.symm) c
theorem Nm (a:Ev i e b g (.bool aw)) (d:aw=true->Ev i e b D (.bool bN)):Ev i e b (.and g D) (.bool (aw&&bN)):=λQ c=>a _ (by
 clear a;induction aw with
 |true=>exact ei _ (.bool _) (d rfl _ c)
 |false=>exact (ei _ (.bool _) c))
theorem i0.base (h:i0 ax q a ay) (c:eD b ax):i0 b q a ay:=⟨h.at_,jE c h.fr⟩
theorem D6 (hA:mX b d r) (hO:r.Ok) (hw:b o=some (.list (a7.map ie))) (hW:a7.length<=5) (hg:b I=some (.list (a8.map .int))) (Y:a8.length<10000) (hH:∀i e,a8=i++e->(kk r i).2=[]\/∃j∈a7,(kk r i).2.length<j.1.length/\jy j.1 (kk r i).2=true):
 Cl (eE PG (a+10)) (.fn 77) [.ref d,.ref o,.ref I] b (gN b (((kk r a8).1++iF (fX [r]) (kk r a8).2.length (kk r a8).2).map .int)):=by
 refine jO [some (.ref d),some (.ref o),some (.ref I),none,none,none,none] (c_ _ _) rfl rfl λk X R hR=>?_
 (injection X with X;subst X)
 refine je (g6 dt (iJ (a5 rfl)) (HP (a:=a+5) λf s1 J M1=>sG gP λc s2 A=>?_))
 have kD:=tE J A.le (A.own (ec _))
 refine oR (a5 rfl) (iG (.list I _) a8 .int (λQ=>gH (A.le _ _ (J _ _ hg))) (λi m N=>∃c L Z,m=[some (.ref d),some (.ref o),some (.ref I),some (.ref f),some (.ref c),L,Z]/\b c=none/\eD (b.set c (.list ((kk r i).1.map .int))) N/\Bd (b.set c (.list ((kk r i).1.map .int))) N f d (kk r i).2)
  (sx c _ _ rfl (jE J A.fr) kD.2 (M1.with A.le (A.own (ec _)))) (λi m N zf=>mW zf λc _ _ _ u y _=>y _ _ (mU u _ _ hg)) ?_ ?_)
 .intro i g r' m ky hd kB K hK;refine g0 m kB λc L Z V S B=>?_
  have x:=mU (ay:=.list ((kk r i).1.map .int)) V
  have F:=Be r i
  have ku:i.length<10000:=c4 (by rw [hd,bh];exact eg _ _) Y
  obtain ⟨U,l,u,y,H,W⟩:=id B
  refine ei _ rfl (je (wu (a5 rfl) (jr (a5 rfl) u rfl rfl rfl (iJ (a5 rfl)) (Kk (a:=a+1) (hA.le x) hO B S (c4 (a_ (c_ _ _) F) ku) λc2 kq z O M4=>add_lists (z _ _ (gW _ _ _)) O.at_ ?_ λD kn p=>?_))))
  .have:=Be r (i++[g])
   rw [vu,bh,bh] at this
   rw [bb,bb]
   refine a_ (a_ (eg _ _) this) ?_
   exact a_ (nS ku) (by unfold fE;decide)
  rw [<-b_] at p
  have M:=vu r i g
  have E:=hH (i++[g]) r' (by rw [hd,eC];rfl)
  rw [M] at E
  generalize hq:jx r ((kk r i).2.length+1) ((kk r i).2++[g])=q at*
  have km:=b4 x z
  have M5:Bd b kq f d q.2:=M4.base x
  have M6:=M5.with p.le (p.own (ec _))
  have b6:=tE km p.le (p.own (ec _))
  obtain ⟨U,l,u,y,H,W⟩:=id M6
  have kG:=hK [some (.ref d),some (.ref o),some (.ref I),some (.ref f),some (.ref D),some (.int g),some (tI q.2)]
  refine yz (qp (gw dt (iJ (eO (a5 rfl) u rfl)) (n:=λv s=>v=tI q.2/\eD kn s) λQ hQ=>tuple_list (a:=a+8) y (hQ _ _ (ec _) ⟨rfl,ec _⟩)) λv s _ h=>h) λv kH T hv=>?_
  refine Qm v hv λ_=>?_
  have kl:=b4 b6.2 T
  have kC:=kl _ _ (b6.1 _ _ hw)
  refine pF (aw:=!decide (q.2=[])&&!a7.any (λj=>decide (j.1.length>q.2.length)&&jy j.1 q.2)) (DU (pv (f9 (MX (bS:=[]) (a5 rfl) (g5 gP)))) λ_ kF l7=>yy (rO (M0 (a:=a+8) (e9:=λj:Row=>decide (j.1.length>q.2.length)&&jy j.1 q.2) (tA _ (eA (rD hW)) (a5 rfl) (l7 _ _ kC) λj hr kz G=>
   (ei [none,some (tI j.1),some (.int j.2),some (tI q.2)] rfl (jG (Nm (fU (pw (a5 rfl)) (pw (a5 rfl)) (xK (decide_eq_decide.mpr h9.symm))) λ_=>AY (rf (a5 rfl) (pw (a5 rfl))) (a5 rfl)) rfl))) λ_ _=>rfl))) λkz G=>⟨λC=>?_,λC=>hK _ _ (sx D _ _ rfl (jE km p.fr) ?_ ?_)⟩
  .exfalso
   rw [eV,fK,fK,decide_eq_false_iff_not,nK] at C
   rcases E with E |⟨j,hr,h5,h6⟩
   .exact C.1 E
   .exact C.2 j hr (by rw [eV,decide_eq_true_iff];exact ⟨h5,h6⟩)
  .rw [M];exact b4 kl G
  .rw [M];exact ⟨U,l,G _ _ (T _ _ u),G _ _ (T _ _ y),H,W⟩
 .intro m ky kx;refine g0 m kx λc L Z V S B=>?_
  have x:=mU (ay:=.list ((kk r a8).1.map .int)) V
  have F:=Be r a8
  obtain ⟨U,l,u,y,H,W⟩:=id B
  refine AR (wu (a5 rfl) (jr (a5 rfl) u rfl rfl rfl gP (FY (a:=a+1) (hA.le x) hO B S (a_ (a_ (c_ _ _) F) (eA Y)) λc2 kq z O=>add_lists (z _ _ (gW _ _ _)) O.at_ ?_ λD kn p=>hR _ _ _ (b4 (b4 x z) p.le) ⟨D,rfl,?_,jE (b4 x z) p.fr⟩)))
  .rw [bb,bb]
   exact a_ (d5 (FZ _ _ _) _) (a_ F (eA (gF Y (by unfold fE;decide))))
  .rw [p.at_,<-b_]
theorem PO (c:a7.Pairwise λa b=>a.1<b.1) (d:aQ.Pairwise λa b=>a.1<b.1) (h:∀r,r∈a7↔r∈aQ):a7=aQ:=by
 have e:∀{a7:List Row},(a7.Pairwise λa b=>a.1<b.1)->a7.Nodup:=λh=>l' (S:=λa b=>a≠b) (λ{a b} h q=>oe b.1 (by rw [q] at h;exact h)) h
 exact rA (λa b _ _ g f=>absurd (List.lt_trans g f) (oe _)) c d ((oa (e c) (e d)).mpr h)
theorem CT (c:a8.Nodup) (e:cp.Nodup) (h:∀g,g∈a8↔g∈cp):sortI a8=sortI cp:=
 rA (λa b _ _ f d=>u_ f d) (sI a8) (sI cp) ((sortI_perm a8).trans (((oa c e).mpr h).trans (sortI_perm cp).symm))
theorem sO (f:a7.Pairwise λa b=>a.1<b.1) (e:∀r∈a7,10<=r.2):([],p)∈a7↔p=sL a7/\sL a7≠-1:=by
 have h:=zm f e
 have d:([],p)∈a7↔([],p)∈a7.filter (λr=>r.1.isEmpty):=by rw [gA];exact ⟨λh=>⟨h,rfl⟩,λh=>h.1⟩
 rw [d,h]
 by_cases c:sL a7= -1
 .rw [if_pos c];exact ⟨(by intros;contradiction),λh=>absurd c h.2⟩
 .rw [if_neg c,dk,BI];exact ⟨λh=>⟨h.2,c⟩,λh=>⟨rfl,h.1⟩⟩
theorem oS (h:aD.lookup p=some a):(p,a)∈aD:=by
 refine Lm aD (gS.mp h) λb c _=>?_
 exact fS _ (.head _)
theorem tT.tF (G:tT r aq) (c:a<r.steps.length):p∈(r.at a).map (·.1)↔after (aq a) p≠[]:=by
 refine ⟨(G.keys c).2 p,λh=>?_⟩
 refine j_ (i7 _ h) λb d=>?_
 exact (G.keys c).1 p b.1 b.2 (jU.mp d)
theorem tT.qP (G:tT r aq) {n:Nat} (b:n<r.steps.length) (h:after (aq n) p≠[]):∃t,r.step n p=some t/\aq t=after (aq n) p/\t<r.steps.length:=by
 induction a:r.step n p with
 |none=>exact absurd (G.stop n p b a) h
 |some t=>exact gq t rfl (G.step n p t b a).1 (n_ G.ok a)
noncomputable abbrev zH:=Int×List (Int×Nat)
noncomputable def px (A:Au) (h:Nat->Nat) (n:Nat):zH:=(A.end n,(sortI ((A.at n).map (·.1))).map λg=>(g,h ((A.step n g).getD 0)))
noncomputable def RR (A:Au):Prop:=∀n p,p∈A.at n->n<p.2
noncomputable def VN (A:Au) (L:Nat->List Row) (i:Nat) (h:Nat->Nat):Prop:=∀n m,i<=n->n<A.steps.length->i<=m->m<A.steps.length->(h n=h m↔L n=L m)
theorem CU (G:tT r aq) (m:RR r) (E:VN r aq a aO) (c:d<r.steps.length) (f:o<r.steps.length) (z:a<=d+1) (u:a<=o+1) (e:px r aO d=px r aO o):∀A∈aq d,A∈aq o:=by
 have I:r.end d=r.end o:=congrArg (·.1) e
 have v:=congrArg (·.2) e
 intro y b;obtain ⟨w,l⟩:=y
 induction w using ej with
 |nil=>
  rw [sO (G.CQ d c) (G.HE d c),<-G.fin d c] at b
  rw [sO (G.CQ o f) (G.HE o f),<-G.fin o f,<-I]
  exact b
 |cons g w=>
  have b:=jU (bj:=(w,l)).mpr b
  refine gi (G.qP c (rF b)) λt j D s=>?_
  have x:=(G.tF c).mpr (rF b)
  have i:(g,aO t)∈(px r aO d).2:=ck.mpr (ei g (ip.mpr x) (by rw [j];rfl))
  rw [v] at i
  refine eS (ck.mp i) λK q k=>?_
  cases (k7 k).1
  have B:=(G.tF f).mp (ip.mp q)
  refine gi (G.qP f B) λh n p C=>?_
  have H:aO h=aO t:=by have:=(k7 k).2;rwa [n] at this
  have F:=m d (g,t) (oS j)
  have J:=m o (g,h) (oS n)
  have:=(E h t (a_ u J) C (a_ z F) s).mp H
  exact jU.mp (by rw [<-p,this,D];exact b)
theorem Nn (G:tT r aq) (f:RR r) (j:VN r aq a aO) (c:d<r.steps.length) (b:o<r.steps.length) (i:a<=d+1) (h:a<=o+1):px r aO d=px r aO o↔aq d=aq o:=by
 refine ⟨λe=>PO (G.CQ d c) (G.CQ o b) λm=>⟨CU G f j c b i h e m,CU G f j b c h i e.symm m⟩,λe=>?_⟩
 unfold px
 have y:sortI ((r.at d).map (·.1))=sortI ((r.at o).map (·.1)):=CT (G.ok.rP d) (G.ok.rP o) λg=>by rw [G.tF c,G.tF b,e]
 rw [G.fin d c,G.fin o b,y,e]
 refine congrArg _ (fk λg v=>?_)
 have l:=(G.tF b).mp (ip.mp v)
 refine gi (G.qP b l) λt p x u=>?_
 refine gi (G.qP (n:=d) c (by rw [e];exact l)) λk q s w=>?_
 rw [p,q]
 exact congrArg _ ((j k t (a_ i (f d (g,k) (oS q))) w (a_ h (f o (g,t) (oS p))) u).mpr (by rw [x,s,e]))
structure F0 (A:Au) (L:Nat->List Row) (i:Nat) (h:Nat->Nat) (K:List (zH×Nat)):Prop where
 rg:∀n,i<=n->n<A.steps.length->i<=h n/\h n<A.steps.length/\L (h n)=L n
 ok:VN A L i h
 kr:∀q∈K,i<=q.2/\q.2<A.steps.length/\q.1=px A h q.2/\h q.2=q.2
 kc:∀n,i<=n->n<A.steps.length->px A h n∈K.map (·.1)
theorem Bf (G:tT r aq) (f:RR r) (e:a<=d):px r (λx=>if x=a then o else aO x) d=px r aO d:=by
 unfold px
 refine congrArg _ (fk λg h=>?_)
 have c:=nP.mpr (ip.mp h)
 induction b:r.step d g with
 |none=>rw [show (r.at d).lookup g=none from b] at c;contradiction
 |some t=>
  have:=f d (g,t) (oS b)
  show (g,if t=a then o else aO t)=_
  rw [if_neg (show ¬t=a from λq=>jg d (eh (q▸this) e))];rfl
variable {cN:List (zH×Nat)}
theorem F0.step (G:tT r aq) (p:RR r) {u:List (zH×Nat)} (H:F0 r aq (a+1) aO cN) (s:a<r.steps.length) (i:(u=cN/\(px r aO a,d)∈cN)\/(px r aO a∉cN.map (·.1)/\u=cN++[(px r aO a,a)]/\d=a)):F0 r aq a (λx=>if x=a then d else aO x) u:=by
 have h:∀{n},a<=n->n≠a->a+1<=n:=λf g=>nh f λq=>g q.symm
 have v:∀m,a+1<=m->m<r.steps.length->(px r aO a=px r aO m↔aq a=aq m):=λm f g=>Nn G p H.ok s g (eJ _) (fY f)
 have k:a<=d/\d<r.steps.length/\aq d=aq a/\∀m,a+1<=m->m<r.steps.length->(d=aO m↔aq a=aq m):=by
  clear G p h;rcases i with ⟨_,t⟩ |⟨C,_,rfl⟩
  .refine wW (H.kr _ t) λl b c w=>?_
   have e:=(v d l b).mp c
   refine uu (nT l) b e.symm (λm f g=>?_)
   rw [e,<-H.ok d m l b f g,show aO d=d from w]
  .refine uu (eJ _) s rfl (λm f g=>⟨λq=>?_,λq=>?_⟩)
   .exact absurd ((H.rg m f g).1) (by rw [<-q];exact Jv _)
   .exact absurd (H.kc m f g) (by rw [<-(v m f g).mpr q];exact C)
 have A:∀q∈u,q∈cN\/q=(px r aO a,a)/\d=a:=λq o=>by
  rcases i with ⟨rfl,_⟩ |⟨_,rfl,i⟩
  .exact .inl o
  .exact (eF.mp o).imp id λaO=>⟨dk.mp aO,i⟩
 refine ⟨λn f g=>?_,λn m f g y z=>?_,λq o=>?_,λn f g=>?_⟩
 .by_cases e:n=a
  .rw [if_pos e,e];exact iz k.1 k.2.1 k.2.2.1
  .rw [if_neg e]
   have:=H.rg n (h f e) g
   exact ⟨nT this.1,this.2⟩
 .by_cases e:n=a
  .by_cases j:m=a
   .rw [e,j];exact ⟨λ_=>rfl,λ_=>rfl⟩
   .show (if n=a then d else aO n)=(if m=a then d else aO m)↔_
    rw [if_pos e,if_neg j,e];exact k.2.2.2 m (h y j) z
  .show (if n=a then d else aO n)=(if m=a then d else aO m)↔_
   rw [if_neg e]
   by_cases j:m=a
   .rw [if_pos j,j]
    exact ⟨λq=>((k.2.2.2 n (h f e) g).mp q.symm).symm,λq=>((k.2.2.2 n (h f e) g).mpr q.symm).symm⟩
   .rw [if_neg j];exact H.ok n m (h f e) g (h y j) z
 .rcases A q o with o |⟨rfl,i⟩
  .refine wW (H.kr q o) λl b c w=>?_
   have B:=nT l
   refine uu B b (by rw [Bf G p B];exact c) ?_
   show (if q.2=a then d else aO q.2)=_
   rw [if_neg (show ¬q.2=a from λe=>Jv a (e▸l))];exact w
  .exact uu (eJ _) s (Bf G p (eJ _)).symm ((if_pos rfl).trans i)
 .rw [Bf G p f]
  clear G p s v k A;by_cases e:n=a
  .rw [e]
   clear H h f g e;rcases i with ⟨rfl,t⟩ |⟨_,rfl,_⟩
   .exact ck.mpr (ei _ t rfl)
   .rw [b_];exact fS _ (.head _)
  .have:=H.kc n (h f e) g
   clear H h f g e;rcases i with ⟨rfl,t⟩ |⟨_,rfl,_⟩
   .exact this
   .rw [b_];exact fQ _ this
noncomputable def sk (k:Nat):AV:=.int k
noncomputable def I_ (p:Int×Nat):AV:=.tup [.int p.1,.int p.2]
noncomputable def Oo (q:zH):AV:=.tup [.int q.1,.tup (q.2.map I_)]
noncomputable def QM (K:List (zH×Nat)):List (AV×AV):=K.map λq=>(Oo q.1,.int q.2)
theorem xM (d:∀a b,dE a=dE b->a=b):∀{l k:List h},l.map dE=k.map dE->l=k
 |[],[],_=>rfl
 |x::l,y::k,c=>by rw [eG,eG,ix] at c;rw [d _ _ c.1,xM d c.2]
 |[],_::_,c=>nomatch c
 |_::_,[],c=>nomatch c
theorem PQ (p q:zH) (h:Oo p=Oo q):p=q:=by
 have c:=AV.tup.inj h
 have f:=(fo c).1
 have g:=AV.tup.inj (fo (fo c).2).1
 refine Qf (AV.int.inj f) (xM (λa b e=>?_) g)
 have d:=AV.tup.inj e
 exact Qf (AV.int.inj (fo d).1) (rB (AV.int.inj (fo (fo d).2).1))
theorem Ja (d:oN a l) (c:oN a af):oN (a+1) (.tup [l,af]):=.tup _ _ λx b=>by
 cases b with
 |head=>exact d
 |tail _ b=>
  cases b with
  |head=>exact c
  |tail _ b=>exact (ee b).elim
theorem Jb (q:zH):Lw (Oo q):=⟨⟨_,rfl⟩,Ja (.int _ _) (.tup _ _ λx a=>by
 refine iQ x (ck.mp a) λp _=>?_
 exact Ja (.int _ _) (.int _ _))⟩
theorem D7 (q:zH) (K:List (zH×Nat)):tc (Oo q) (QM K):=.inr ⟨Jb q,λp a=>by
 refine iQ p (ck.mp a) λx _=>?_;exact Jb _⟩
theorem Jc {q:zH}:Oo q∈(QM cN).map (·.1)↔q∈cN.map (·.1):=by
 unfold QM
 rw [er,ck,ck]
 exact ⟨λb=>eS b λx a e=>(ei x a (PQ _ _ e)),λb=>eS b λx a e=>(ei x a (congrArg Oo e))⟩
theorem yH (h:VE PG i g e b λv b=>VE PG i D e b λw b=>Aj b n bM v w):VE PG i (.bin bM g D) e b n:=h
theorem mul_list (k:b a=some (.list j)) (i:d<=fE) (f:j.length*d<=fE) (h:∀c e,sg b e c (.list (gk d j).flatten)->n (.ref c) e):Aj b n .mul (.ref a) (.int d):=.rep k i f λc g=>h c _ (fM g)
theorem Bg (x:h):∀k:Nat,(gk k [x]).flatten=gk k x
 |0=>rfl
 |k+1=>by rw [wH,La,Bg x k];rfl
theorem Kl (c:bH .pT ((eQ a).map λk=>.int ((a:Int) -1 - (k:Nat)))):oh b bH (.pT ((a:Int) -1) (-1) (-1)):=.pT (by
 unfold w_
 rw [if_neg (by decide),if_pos rfl,W7]) c
theorem D8 (k:Ev i e b g l) (c:Ev i e b D (.ref a)) (f:b a=some (.dict aC)) (j:tc l aC) (h:aw=true↔l∈aC.map (·.1)):Tv i e b (.cmp g .Cf D) (!aw):=
 f9 (fU k c λQ d=>.Cf (.dict f j _ h) d)
variable {bT:List Nat}
theorem rn (h:eQ a=C++d::bT):d=C.length/\C.length<a:=by
 have c:=congrArg fi h
 rw [fc,bh,e_] at c
 have b:(eQ a)[C.length]? =some d:=by rw [h];simp
 have e:C.length<a:=by rw [c];exact gj (fz _)
 rw [ju e] at b
 exact ⟨(d3 b).symm,e⟩
theorem Np (b:a<C.length) (x:Nat):(C.set a d).getD x 0=if x=a then d else C.getD x 0:=by
 rw [d_,d_,nJ]
 by_cases h:x=a
 .rw [if_pos h,if_pos h.symm,if_pos b];rfl
 .rw [if_neg h,if_neg λq=>h q.symm]
theorem HQ (b:a<C.length):(C.map sk)[a]? =some (.int (C.getD a 0:Nat)):=by
 rw [ed,d_,df b];rfl
theorem HR (h:mX b d r) (G:tT r aq) (hF:RR r) (h5:∀i,(r.at i).length<=5) (V:r.steps.length<=1000) (hP:∀E (c:List Nat) K f,eD b f->f E=some (.list (c.map sk))->c.length=r.steps.length->F0 r aq 0 (λx=>c.getD x 0) K->Cl (eE PG (a+5)) (.fn 60) [.ref d,.ref E] f n):Cl (eE PG (a+6)) (.fn 59) [.ref d] b n:=by
 refine jO [some (.ref d),none,none,none,none,none] (c_ _ _) rfl rfl λkI hk R hR=>?_
 (injection hk with hk;subst hk)
 have kq:∀(m:MM) f,m[0]? =some (some (.ref d))->eD b f->Ev (eE PG (a+5)) m f (.fL (.var 0) 9 .nil) (.int r.steps.length):=λm f hm E Q hQ=>by
  obtain ⟨dx,l,e,ds,I⟩:=id h
  exact jr (a5 hm) (E _ _ I.obj) rfl rfl rfl gP (sF (c_ 4 _) (h.le E) hQ)
 refine je (yH (si (iJ dt) λc0 s1 n1=>kq _ _ rfl n1.le _ (mul_list n1.at_ (a_ V (by unfold fE;decide)) (by rw [i9,UE];exact a_ V (by unfold fE;decide)) λc1 s2 L=>zk λc2 s3 M=>?_)))
 have kn:=b4 n1.le (b4 L.le M.le)
 have ku:=M.ne L.at_
 obtain ⟨dx,l,e,ds,I⟩:=id h
 rw [Bg] at L
 refine A4 (g6 dt (vE (ia (kq _ _ rfl kn) dt rfl) (wo dt) (wo dt)) (jI (ei [(r.steps.length:Int) -1,-1,-1] rfl (.down ⟨Sj V,by decide,?_⟩))))
 refine iG .pT (eQ r.steps.length) (λkI=>.int ((r.steps.length:Int) -1 - (kI:Nat))) (λQ=>Kl) (λp m f=>eD b f/\(∃(c:List Nat) (K:List (zH×Nat)),i0 b f c1 (.list (c.map sk))/\i0 b f c2 (.dict (QM K))/\K.length<=p.length/\c.length=r.steps.length/\F0 r aq (r.steps.length -p.length) (λx=>c.getD x 0) K)/\∃w3 J U,m=[some (.ref d),some (.ref c1),some (.ref c2),w3,J,U])
  (vb kn ⟨gk r.steps.length 0,[],?_,M.own (b4 n1.le L.le),eJ _,pU,?_⟩ _ _ _ rfl) (λ_ _ _ _=>trivial) ?_ ?_
 .rw [xW]
  exact (L.own n1.le).le M.le
 .have km:∀x,r.steps.length - ([]:List Nat).length<=x->x<r.steps.length->False:=λx C u=>jg x (eh u C)
  exact ⟨λx C u=>(km x C u).elim,λx y C u=>(km x C u).elim,(by intros;contradiction),λx C u=>(km x C u).elim⟩
 .intro p y r' m kJ hd kF K' kD;refine ve m kF λD A w3 J U=>?_;refine gp A λc K z w Y T H=>?_
  refine iK (rn hd) λA kl=>?_;clear hP hR kq n1 M kn L hd kF;subst A
  have kP:r.steps.length -p.length=(r.steps.length - (p.length+1))+1:=by exact Of (d:=0) (iX kl)
  rw [kP] at H
  have kX:((r.steps.length:Int) -1 - (p.length:Nat))=((r.steps.length - (p.length+1):Nat):Int):=cs kl
  rw [kX]
  have W:r.steps.length - (p.length+1)<r.steps.length:=by exact kf (c4 (ft _) kl) (fz _)
  have kY:∀g,r.steps.length - (p++[p.length]).length=r.steps.length - (p.length+1):=λg:Nat=>by rw [bh];rfl
  rw [kY 0] at kD
  generalize r.steps.length - (p.length+1)=i at*
  refine eS (I.dict W) λdd kV ky=>?_
  have kz:∀{X:Ak} {m:MM} {f:AS} {kC N:Nat},eD b f->m[kC]? =some (some (.ref d))->m[N]? =some (some (.int i))->Ev X m f (.sub (.attr (.var kC) 32) (.var N)) (.ref dd):=λE hm hq=>fq (eO (a5 hm) (E _ _ I.obj) rfl) (E _ _ I.steps) (a5 hq) kV
  have kU:∀s:List (Int×Nat),(dV s).map (·.1)=(s.map (·.1)).map AV.int:=λs=>by unfold dV;rw [er,er];rfl
  have kB:((r.at i).map (·.1)).length<=5:=by rw [bb];exact h5 i
  refine ei [some (.ref d),some (.ref c1),some (.ref c2),some (.int i),J,U] rfl (yz (pZ (a:=a+4) (n:=λo _=>o= .tup ((px r (λx=>c.getD x 0) i).2.map I_)) (qp (xD (λg=>I_ (g,c.getD ((r.step i g).getD 0) 0)) (eA (rD (by rw [(sortI_perm _).length_eq];exact kB))) (gw dt (iJ (kz D rfl rfl)) (sJ (a:=a+4) (q8 (D _ _ ky) (nO _)|>λh Q hQ=>h Q (by rw [kU];exact hQ)) kB)) λg hg kG B=>?_) λo s _ S=>?_) λ_ _=>rfl) λo kG B S=>?_)
  .have C:=nP.mpr (ip.mp hg)
   induction u:r.step i g with
   |none=>rw [show (r.at i).lookup g=none from u] at C;contradiction
   |some t=>
    have ht:=n_ G.ok u
    refine ei [none,some (.int g),some (.ref c1),some (.int i),some (.ref d)] rfl (jG (g5 (iL (a5 rfl) (fq (a5 rfl) (B _ _ z.at_) (sd (kz (kC:=4) (N:=3) (b4 D B) rfl rfl) (b4 D B _ _ ky) (a5 rfl) (.inl ⟨⟨_,rfl⟩,nO _⟩) (rM u)) (HQ (T▸ht))))) rfl)
  .rw [show (px r (λx=>c.getD x 0) i).2.map I_=_ from er ..];exact S
  subst S
  have Z:=b4 D B
  refine g8 (l:=Oo (px r (λx=>c.getD x 0) i)) (g5 (iL (fq (eO (a5 rfl) (Z _ _ I.obj) rfl) (Z _ _ I.ends) (a5 rfl) (vl G.ok W)) (a5 rfl))) ?_
  have z:=z.le B
  have w:=w.le B
  refine yC (λm f=>eD b f/\(∃F o,i0 b f c1 (.list (c.map sk))/\i0 b f c2 (.dict (QM F))/\F.length<=p.length+1/\(px r (λx=>c.getD x 0) i,o)∈F/\((F=K/\(px r (λx=>c.getD x 0) i,o)∈K)\/(px r (λx=>c.getD x 0) i∉K.map (·.1)/\F=K++[(px r (λx=>c.getD x 0) i,i)]/\o=i)))/\∃J,m=[some (.ref d),some (.ref c1),some (.ref c2),some (.int i),J,some (Oo (px r (λx=>c.getD x 0) i))]) (λK3 kx=>yD (D8 (a5 rfl) (a5 rfl) w.at_ (D7 _ _) (decide_eq_true_iff.trans Jc.symm) _ ?_)) ?_
  .by_cases O:px r (λx=>c.getD x 0) i∈K.map (·.1)
   .rw [decide_eq_true O]
    refine eS (ck.mp O) λA hq e=>?_;obtain ⟨N,o⟩:=A
    subst e
    exact kx _ _ ⟨Z,⟨K,o,z,w,fY Y,hq,.inl ⟨rfl,hq⟩⟩,_,rfl⟩
   .rw [decide_eq_false O]
    refine wy (a5 rfl) (a5 rfl) w.at_ (a5 rfl) (D7 _ _) (by unfold QM;rw [bb];exact c4 (a_ Y (a_ (eA kl) V)) (by unfold fE;decide)) λkW u6=>kx _ _ ⟨(u6.le Z w.fr),⟨K++[(px r (λx=>c.getD x 0) i,i)],i,z.keep u6 ku,?_,by rw [bh];exact fg Y,fS _ (.head _),.inr ⟨O,rfl,rfl⟩⟩,_,rfl⟩
    have:=u6.own (s0:=b) w.fr
    rw [jZ (λN=>O (Jc.mp N))] at this
    rw [show QM (K++[(px r (λx=>c.getD x 0) i,i)])=QM K++[(Oo (px r (λx=>c.getD x 0) i),.int i)] from b_ ..]
    exact this
  .intro m kW kK;refine Ll m kK λkN A J=>?_;refine gp A λF o z w kM kT kQ=>?_
   have kH:i<c.length:=T▸W
   refine A3 (l:=.int o) (sd (a5 rfl) w.at_ (a5 rfl) (D7 _ _) (ck.mpr (ei _ kT rfl))) (a5 rfl) z.at_ (a5 rfl) (by rw [bb];exact kH) λkZ u7=>kD _ _ (vb (u7.le kN z.fr) ⟨c.set i o,F,?_,w.keep u7 ku.symm,by rw [bh];exact kM,by rw [gI];exact T,?_⟩ _ _ _ rfl)
   .rw [GF];exact u7.own z.fr
   .rw [show (λx=>(c.set i o).getD x 0)=λx=>if x=i then o else c.getD x 0 from funext λx=>Np kH x]
    exact H.step G hF W kQ
 .intro m kJ kO;refine ve m kO λD A w3 J U=>?_;refine gp A λc K z w Y T H=>?_
  rw [fc,jB] at H
  exact sh (gw dt (iL (a5 rfl) (a5 rfl)) (hP c1 c K kJ D z.at_ T H)) λo kG B S=>hR _ _ _ (b4 D B) S
noncomputable def nQ (j:Nat):Nat->List Nat->Option Nat
 |k,[]=>some k
 |k,t::ts=>if k<=j\/k<t then none else nQ j (max k (t+1)) ts
noncomputable def pP:Nat->Nat->List (List (Int×Nat))->Option Nat
 |k,_,[]=>some k
 |k,j,s::S=>(nQ j k (s.map (·.2))).bind λk'=>pP k' (j+1) S
theorem F1 (j t:Nat):∀(b:List Nat) (k:Nat),nQ j k (b++[t])=(nQ j k b).bind λa=>if a<=j\/a<t then none else some (max a (t+1)):=by
 intro d
 induction d with
 |nil=>
  intro k
  exact rfl
 |cons u b c=>
  intro k
  show (if _ then _ else _)=(if _ then _ else _:Option Nat).bind _
  by_cases h:k<=j\/k<u
  .rw [if_pos h,if_pos h];rfl
  .rw [if_neg h,if_neg h];exact c _
theorem F2 (s:List (Int×Nat)):∀(S:List (List (Int×Nat))) (k j:Nat),pP k j (S++[s])=(pP k j S).bind λa=>nQ (j+S.length) a (s.map (·.2)):=by
 intro c
 induction c with
 |nil=>
  intro k j
  show (nQ j k _).bind (λa=>some a)=nQ (j+0) k _
  cases nQ j k (s.map (·.2))<;>rfl
 |cons u S b=>
  intro k j
  show (nQ j k _).bind (λa=>pP a (j+1) (S++[s]))=((nQ j k _).bind λa=>pP a (j+1) S).bind _
  induction nQ j k (u.map (·.2)) using d7 with
  |none=>rfl
  |some a=>
   show pP a (j+1) (S++[s])=(pP a (j+1) S).bind _
   rw [b,e_,fI,eY 1]
structure F3 (A:Au) (h:Nat->Nat) (o:List Nat) (x:Nat) (D:List Int) (s:List (Int×Nat)):Prop where
 keys:s.map (·.1)=D
 to:∀p∈s,∃c,A.step x p.1=some c/\o[p.2]? =some (h c)
structure Br (A:Au) (L:Nat->List Row) (h:Nat->Nat) (o:List Nat) (S:List (List (Int×Nat))) (es:List Int):Prop where
 o0:o[0]? =some (h 0)
 nd:o.Nodup
 rep:∀x∈o,x<A.steps.length/\h x=x/\∃u,L x=gG (L 0) u/\(u=[]\/L x≠[])
 le:S.length<=o.length
 row:∀(j:Nat) s x,S[j]? =some s->o[j]? =some x->F3 A h o x (sortI ((A.at x).map (·.1))) s
 es:es=(o.take S.length).map A.end
theorem F3.more (d:F3 r aO C a a8 aD) (y:List Nat):F3 r aO (C++y) a a8 aD:=⟨d.keys,λp f=>eS (d.to p f) λc e b=>(ei c e (by rw [eN (gy b)];exact b))⟩
theorem Br.more (b:Br r aq aO C aP a8) (f:a∉C) (g:a<r.steps.length/\aO a=a/\∃u,aq a=gG (aq 0) u/\(u=[]\/aq a≠[])):Br r aq aO (C++[a]) aP a8 where
 o0:=by rw [eN (gy b.o0)];exact b.o0
 nd:=eP.mpr ⟨b.nd,eT.mpr ⟨ee,eI⟩,λl k c h q=>f (by rw [<-dk.mp h,<-q];exact k)⟩
 rep y d:=(eF.mp d).elim (b.rep y) λd=>by rw [dk.mp d];exact g
 le:=by rw [bh];exact fY b.le
 row j s y e d:=by
  have i:=eh (gy e) b.le
  rw [eN i] at d
  exact (b.row j s y e d).more _
 es:=by rw [List.take_append_of_le_length b.le];exact b.es
theorem Br.push (b:Br r aq aO C aP a8) (e:C[aP.length]? =some a) (h:F3 r aO C a (sortI ((r.at a).map (·.1))) aD):Br r aq aO C (aP++[aD]) (a8++[r.end a]) where
 o0:=b.o0
 nd:=b.nd
 rep:=b.rep
 le:=by rw [bh];exact gy e
 row j t y c d:=by
  rcases j' j aP.length with g |f
  .rw [eN g] at c;exact b.row j t y c d
  .rw [fj f] at c
   have i:j=aP.length:=by
    have:=gy c
    rw [i9] at this
    exact ir (nG (iZ.mp this)) f
   clear b f;subst i
   rw [jB] at c
   (injection c with c;subst c)
   rw [e] at d;(injection d with d;subst d)
   exact h
 es:=by rw [bh,b.es,i9,K_,e,b_];rfl
theorem Br.x6 (G:tT r aq) (E:∀n,n<r.steps.length->aO n<r.steps.length/\aq (aO n)=aq n) (b:Br r aq aO C aP a8) (v:aP.length=C.length):tT ⟨aP,a8⟩ (λj=>aq (C.getD j 0)):=by
 have k:∀j,j<aP.length->∃x s,C[j]? =some x/\aP[j]? =some s/\(⟨aP,a8⟩:Au).at j=s/\C.getD j 0=x/\x<r.steps.length/\F3 r aO C x (sortI ((r.at x).map (·.1))) s:=λj a=>by
  have B:j<C.length:=v▸a
  have y:=df a
  have u:=df B
  refine nX _ _ u y ?_ ?_ (b.rep _ (fN B)).1 (b.row j _ _ y u)
  .show aP.getD j []=_
   rw [d_,y];rfl
  .rw [d_,u];rfl
 have D:a8.length=aP.length:=by rw [b.es,bb,fR,j3 b.le]
 have H:∀j g t,j<aP.length->(⟨aP,a8⟩:Au).step j g=some t->∃x c,C.getD j 0=x/\x<r.steps.length/\r.step x g=some c/\C[t]? =some (aO c):=λj g t a e=>by
  refine iP (k j a) λx s l m h d f i=>?_
  unfold U_ at e
  rw [h] at e
  refine eS (i.to (g,t) (oS e)) λc q o=>?_
  exact pf x c d f q o
 refine ⟨QK D ?_ (λj p w=>?_) λj=>?_,λj a=>?_,λj g t a e=>?_,λj g a e=>?_,λj a=>?_,λj a=>?_⟩
 .show 0<aP.length
  rw [v];exact gy b.o0
 .refine iK (wx w) λa _=>?_
  refine iP (k j a) λx s l m h d f i=>?_
  rw [h] at w
  refine eS (i.to p w) λc q o=>?_
  show p.2<aP.length
  rw [v];exact gy o
 .by_cases a:j<aP.length
  .refine iP (k j a) λx s l m h d f i=>?_
   rw [h,i.keys]
   exact (sortI_perm _).symm.nodup (G.ok.rP x)
  .rw [show (⟨aP,a8⟩:Au).at j=[] from yF a];exact eI
 .refine iP (k j a) λx s l m h d f i=>?_
  rw [d,<-G.fin x f]
  show a8.getD j (-1)=_
  rw [d_,b.es,ed,Ew a,l];rfl
 .refine nV (H j g t a e) λx c d f q o=>?_
  have z:=G.step x g c f q
  rw [d,<-z.1,d_,o]
  have F:=(E c (n_ G.ok q)).2
  exact ⟨F,by rw [z.1];exact z.2⟩
 .refine iP (k j a) λx s l m h d f i=>?_
  rw [d]
  have A:g∉s.map (·.1):=by
   unfold U_ at e
   rw [h] at e
   exact lookup_none e
  rw [i.keys,ip,G.tF f] at A
  exact gg A
 .refine iP (k j a) λx s l m h d f i=>?_
  rw [d];exact G.CQ x f
 .refine iP (k j a) λx s l m h d f i=>?_
  rw [d];exact G.HE x f
noncomputable def QN (o:List Nat):List (AV×AV):=o.mapIdx λ(j x:Nat)=>(.int x,.int j)
theorem Nq (o:List Nat) (x:Nat):QN (o++[x])=QN o++[(.int x,.int o.length)]:=KR
theorem Jd (h:C[a]? =some d):(AV.int d,AV.int a)∈QN C:=by
 obtain ⟨c,b⟩:=ew.mp h
 exact o7.mpr ⟨a,c,by rw [b]⟩
theorem D9 (o:List Nat):IntKeys (QN o):=λp a=>by
 obtain ⟨i,b,rfl⟩:=o7.mp a;exact ⟨_,rfl⟩
theorem F4:AV.int a∈(QN C).map (·.1)↔a∈C:=by
 constructor
 .intro h
  refine eS (ck.mp h) λp d e=>?_
  obtain ⟨i,c,rfl⟩:=o7.mp d
  have:C[i]=a:=rB (AV.int.inj e)
  exact this▸fN c
 .intro h
  obtain ⟨t,b⟩:=eZ.mp h
  exact ck.mpr (ei _ (Jd b) rfl)
theorem PR (f:∀s,Ev i e s g (.ref o)) (p:b o=some (.inst I ak aS)) (h:∀c1 c2 m j c l,sg b m c1 (.list [])->sg m j c2 (.list [])->Upd j c o (.inst I ak (iy aS a (.ref c1)))->Upd c l o (.inst I ak (iy (iy aS a (.ref c1)) d (.ref c2)))->jo PG i ah e l ag):
 jo PG i (.cons (.ES g a g d (.tup (.cons (.lst .nil) (.cons (.lst .nil) .nil)))) ah) e b ag:=by
 intro c1 q c2 n
 have n1:=fM (ay:=.list []) q
 have k:=fM (ay:=.list []) n
 exact nA _ _ rfl (f _ _ (.mk (k.le _ _ (n1.le _ _ p)) (f _ _ (.mk (gW _ _ _) (h c1 c2 _ _ _ _ n1 k pq pq)))))
theorem Om.upd {l:Nat} {o:AO} (h:Om b q a d l I C r) (u:Upd q ax ak o) (j:a≠ak) (g:l≠ak) (k:I≠ak) (m:ak∉C):Om b ax a d l I C r:=
 ⟨(u.ne a j).trans h.obj,(u.ne l g).trans h.steps,(u.ne I k).trans h.ends,h.len,λi e c=>(u.ne e λf=>m (f▸fh c)).trans (h.dict i e c),h.nd,h.ne,h.fl,h.fe,h.fd⟩
theorem Om.le (h:Om b q a d o I C r) (c:eD q ax):Om b ax a d o I C r:=
 ⟨c _ _ h.obj,c _ _ h.steps,c _ _ h.ends,h.len,λi e I=>c _ _ (h.dict i e I),h.nd,h.ne,h.fl,h.fe,h.fd⟩
structure GN (s0 st:AS) (c2 c3 t dx l e:Nat) (ds:List Nat) (o:List Nat) (S:List (List (Int×Nat))) (es:List Int):Prop where
 le:eD s0 st
 ord:i0 s0 st c2 (.list (o.map sk))
 pl:i0 s0 st c3 (.dict (QN o))
 au:Om s0 st t dx l e ds ⟨S,es⟩
 n1:l≠c2
 n2:e≠c2
 n3:c3∉ds
theorem GN.grow (h:GN b q a d o I ak aI C bT aP a8) (c:eD q ax):GN b ax a d o I ak aI C bT aP a8:=
 ⟨b4 h.le c,h.ord.le c,h.pl.le c,h.au.le c,h.n1,h.n2,h.n3⟩
theorem oi (h:b a=some ay) (c:b a=some cF):ay=cF:=d3 (h.symm.trans c)
theorem GN.goal {j:AS} (h:GN b q a d o I ak aI C bT aP a8) (f:Upd q ax d (.dict (QN (bT++[bc])))) (e:Upd ax j a (.list ((bT++[bc]).map sk))):GN b j a d o I ak aI C (bT++[bc]) aP a8:=by
 have r:d≠a:=λc=>by have:=h.ord.at_;rw [<-c,h.pl.at_] at this;(injection this;contradiction)
 have g:∀{k l},q k=some l->(∀t,l≠.dict t)->k≠d:=λaI n c=>n _ (oi aI (c▸h.pl.at_))
 have s:=h.au.upd f (g h.au.obj (by (repeat intro _);contradiction)) (g h.au.steps (by (repeat intro _);contradiction)) (g h.au.ends (by (repeat intro _);contradiction)) h.n3
 refine ⟨e.le (f.le h.le h.pl.fr) h.ord.fr,e.own h.ord.fr,(f.own h.pl.fr).keep e r,s.upd e (λc=>?_) h.n1 h.n2 (λp=>?_),h.n1,h.n2,h.n3⟩
 .have:=oi h.au.obj (c▸h.ord.at_);contradiction
 .obtain ⟨i,m⟩:=eZ.mp p
  have:=oi (h.au.dict i _ m) h.ord.at_;contradiction
theorem GN.push {k:AS} (h:GN b q a d o I ak aI C bT aP a8) (x:i0 b q bc (.dict (dV aD))) (v:bc∉C/\bc≠d) (r:Upd q ax ak (.list ((C++[bc]).map .ref))) (m:Upd ax k aI (.list ((a8++[p]).map .int))):
 GN b k a d o I ak aI (C++[bc]) bT (aP++[aD]) (a8++[p]):=by
 have B:=m.le (r.le h.le h.au.fl) h.au.fe
 have n:∀e s,q e=some s->e≠ak->e≠aI->k e=some s:=λe s g E D=>(m.ne e D).trans ((r.ne e E).trans g)
 have kd:∀e t,q e=some (.dict t)->k e=some (.dict t):=λe t g=>n e _ g (λc=>by have:=oi g (c▸h.au.steps);contradiction) λc=>by have:=oi g (c▸h.au.ends);contradiction
 refine ⟨B,⟨n _ _ h.ord.at_ h.n1.symm h.n2.symm,h.ord.fr⟩,⟨kd _ _ h.pl.at_,h.pl.fr⟩,⟨n _ _ h.au.obj (λc=>by have:=oi h.au.obj (c▸h.au.steps);contradiction) (λc=>by have:=oi h.au.obj (c▸h.au.ends);contradiction),(m.ne ak h.au.ne).trans r.at_,m.at_,?_,λi l f=>?_,?_,h.au.ne,h.au.fl,h.au.fe,λl y=>?_⟩,h.n1,h.n2,?_⟩
 .rw [bh,h.au.len];show aP.length+1=(aP++[aD]).length;rw [bh];rfl
 .have u:C.length=aP.length:=h.au.len
  show k l=some (.dict (dV ((aP++[aD]).getD i [])))
  rw [d_]
  rcases j' i C.length with j |j
  .rw [eN j] at f
   rw [eN (u▸j),<-d_]
   exact kd _ _ (h.au.dict i l f)
  .rw [fj j] at f
   have w:i -C.length=0:=iZ.mp (gy f)
   rw [w] at f
   (injection f with f;subst f)
   rw [fj (u▸j),<-u,w]
   exact kd _ _ x.at_
 .exact eP.mpr ⟨h.au.nd,eT.mpr ⟨ee,eI⟩,λF z e g c=>v.1 (by rw [<-dk.mp g,<-c];exact z)⟩
 .exact (eF.mp y).elim (h.au.fd l) λc=>by rw [dk.mp c];exact x.fr
 .exact λA=>(eF.mp A).elim h.n3 λc=>v.2 (dk.mp c).symm
theorem GN.side (h:GN b q a d o I ak aI C bT aP a8) (g:i0 b q bc (.dict aC)) (e:bc∉C/\bc≠d) (u:Upd q ax bc ay):GN b ax a d o I ak aI C bT aP a8:=by
 have c:∀{f ay},q f=some ay->(∀aC,ay≠.dict aC)->f≠bc:=λaI c i=>c _ (oi aI (i▸g.at_))
 exact ⟨u.le h.le g.fr,h.ord.keep u (c h.ord.at_ (by (repeat intro _);contradiction)),h.pl.keep u e.2.symm,h.au.upd u (c h.au.obj (by (repeat intro _);contradiction)) (c h.au.steps (by (repeat intro _);contradiction)) (c h.au.ends (by (repeat intro _);contradiction)) e.1,h.n1,h.n2,h.n3⟩
theorem RS (k:Ev i e b g (.int p)) (f:Ev i e b D l) (h:∀c d,sg b d c (.dict [(.int p,l)])->jo PG i ah (e.set a (some (.ref c))) d ag):jo PG i (.cons (.asg a (.dict (.cons g (.cons D .nil)))) ah) e b ag:=
 k _ (f _ (gq [(p,l)] rfl (eT.mpr ⟨ee,eI⟩) (λc j=>h c _ (fM j))))
theorem Br.Nr (b:Br r aq aO C aP a8):C.length<=r.steps.length:=by
 have:=b.nd.length_le_of_subset (l₂:=eQ r.steps.length) λx a=>eU.mpr (b.rep x a).1
 rwa [fc] at this
theorem D' (hA:mX b d r) (G:tT r aq) (hh:F0 r aq 0 (λx=>C.getD x 0) cN) (kD:b o=some (.list (C.map sk))) (kN:C.length=r.steps.length) (h5:∀kF,(r.at kF).length<=5) (Z:r.steps.length<=1000) (hP:∀t y S z E,eD b E->mX E t ⟨S,z⟩->Br r aq (λx=>C.getD x 0) y S z->S.length=y.length->pP 1 0 S=some y.length->n (.ref t) E):Cl (eE PG (a+5)) (.fn 60) [.ref d,.ref o] b n:=by
 have ku:∀x,x<r.steps.length->C.getD x 0<r.steps.length/\aq (C.getD x 0)=aq x:=λx A=>(hh.rg x (ft _) A).2
 have kW:∀X,X<r.steps.length->C.getD (C.getD X 0) 0=C.getD X 0:=λX Z=>(hh.ok _ X (ft _) (ku X Z).1 (ft _) Z).mpr (ku X Z).2
 have h0:=HQ (C:=C) (a:=0) (kN▸G.ok.pos)
 refine jO [some (.ref d),some (.ref o),none,none,none,none,none,none,none] (c_ _ _) rfl rfl λk hk R L=>?_
 (injection hk with hk;subst hk)
 refine sG (iJ (fq (a5 rfl) kD dt h0)) λc2 s1 n1=>RS (fq (a5 rfl) (n1.le _ _ kD) dt h0) dt λP s2 n2=>je (g6 dt gP (FV (a:=a) λt s3 l3 M3 J=>?_))
 obtain ⟨kn,lo,eo,lT,M3⟩:=M3
 refine PR (o:=t) (I:=6) (ak:=kn) (aS:=[(32,.ref lo),(55,.ref eo)]) (λs=>a5 rfl) M3.obj λl e s4 s5 s6 s7 M T u6 u7=>?_
 have lx:eD b s5:=b4 n1.le (b4 n2.le (b4 l3 (b4 M.le T.le)))
 have kX:b t=none:=jE (b4 n1.le n2.le) J
 have o3:=l3 _ _ n2.at_
 have I:=l3 _ _ (n2.le _ _ n1.at_)
 have t5:=T.le _ _ (M.le _ _ M3.obj)
 have kp:∀j w,j≠t->s5 j=some w->s7 j=some w:=λj w h1 h2=>(u7.ne j h1).trans ((u6.ne j h1).trans h2)
 have nt:∀{j w},s5 j=some w->(∀X kn lE,w≠.inst X kn lE)->j≠t:=λh1 h2 q=>h2 _ _ _ (oi h1 (q▸t5))
 have q2:=T.le _ _ (M.le _ _ I)
 have q3:=T.le _ _ (M.le _ _ o3)
 have q4:=T.le _ _ M.at_
 have B0:GN b s7 c2 P t kn l e [] [C.getD 0 0] [] []:=
  ⟨u7.le (u6.le lx kX) kX,⟨kp _ _ (nt q2 (by (repeat intro _);contradiction)) q2,n1.fr⟩,⟨kp _ _ (nt q3 (by (repeat intro _);contradiction)) q3,jE n1.le n2.fr⟩,⟨u7.at_,kp _ _ (nt q4 (by (repeat intro _);contradiction)) q4,kp _ _ (nt T.at_ (by (repeat intro _);contradiction)) T.at_,rfl,(by intros;contradiction),eI,T.ne M.at_,jE (b4 n1.le (b4 n2.le l3)) M.fr,jE (b4 n1.le (b4 n2.le (b4 l3 M.le))) T.fr,(by intros;contradiction)⟩,(M.ne I).symm,(T.ne (M.le _ _ I)).symm,ee⟩
 have b0:Br r aq (λx=>C.getD x 0) [C.getD 0 0] [] []:=
  ⟨rfl,eT.mpr ⟨ee,eI⟩,λx A=>by rw [dk.mp A];exact ⟨(ku 0 G.ok.pos).1,(kW 0 G.ok.pos),[],(by rw [tC];exact (ku 0 G.ok.pos).2),(.inl rfl)⟩,ft _,(by intros;contradiction),rfl⟩
 obtain ⟨lV,la,ea,lU,km⟩:=id hA
 refine oM r.steps.length (λN m E=>∃y S z O,N=r.steps.length -S.length/\GN b E c2 P t kn l e O y S z/\Br r aq (λx=>C.getD x 0) y S z/\pP 1 0 S=some y.length/\∃w5 w6 w7 w8,m=[some (.ref d),some (.ref o),some (.ref c2),some (.ref P),some (.ref t),w5,w6,w7,w8])
  (De _ _ _ _ (Dd rfl B0 b0 rfl (De _ _ _ _ rfl))) ?_
 intro N m E lA K' lz;refine G5 lA λy S z O lr=>qk lr λlH B j ho lC=>G5 lC λw5 w6 w7 w8 lI=>?_;subst lH;subst lI
 have kP:=j.Nr
 have kB:O.length=S.length:=B.au.len
 refine ei _ (pv (f9 (fU (jd (eO (a5 rfl) B.au.obj rfl) (f7 B.au.steps)) (jd (a5 rfl) (f7 B.ord.at_)) (n0 rfl)))) (λlW l2=>⟨λJ=>?_,λJ=>?_⟩)
 .have kQ:S.length<y.length:=by
   have J:=of_decide_eq_true J
   rw [bb,bb,kB] at J
   exact h9.mp J
  have B:=B.grow l2
  obtain ⟨x,A⟩:∃x,y[S.length]? =some x:=oJ _ (df kQ)
  have lM:=fh A
  refine Dj (j.rep x lM) λky lR u kZ lS=>?_
  have lB:(y.map sk)[(O.map AV.ref).length]? =some (.int x):=by rw [bb,kB,ed,A];rfl
  refine g8 (fq (a5 rfl) B.ord.at_ (jd (eO (a5 rfl) B.au.obj rfl) (f7 B.au.steps)) lB) (zk λc6 s8 n8=>?_)
  have h6:c6∉O/\c6≠P:=⟨λW=>by
   refine j_ (eZ.mp W) λkF hi=>?_
   exact n8.ne (B.au.dict kF _ hi) rfl,(n8.ne B.pl.at_).symm⟩
  have F:i0 b s8 c6 (.dict (dV [])):=n8.own B.le
  have B:=B.grow n8.le
  refine eS (km.dict ky) λdd kK kI=>?_
  have lD:∀s:List (Int×Nat),(dV s).map (·.1)=(s.map (·.1)).map AV.int:=λs=>by unfold dV;rw [er,er];rfl
  have kT:((r.at x).map (·.1)).length<=5:=by rw [bb];exact h5 x
  refine rd (gw dt (iJ (fq (eO (a5 rfl) (B.le _ _ km.obj) rfl) (B.le _ _ km.steps) (a5 rfl) kK)) (sJ (a:=a+3) (λQ hQ=>q8 (B.le _ _ kI) (nO _) Q (by rw [lD];exact hQ)) kT)) λv s9 l9 hv=>?_
  refine jj v hv λV kq=>?_
  have k2:V≠c2:=λq=>by have:=kq.fr;rw [q,B.ord.at_] at this;contradiction
  have B:=B.grow l9
  have F:=F.le l9
  have k3:V≠P:=λq=>by have:=oi kq.at_ (q▸B.pl.at_);contradiction
  have k6:V≠c6:=λq=>by have:=oi kq.at_ (q▸F.at_);contradiction
  refine iG (.list V ((sortI ((r.at x).map yY)).map .int)) (sortI ((r.at x).map yY)) .int (λQ=>gH kq.at_) (λD m E=>∃w s,GN b E c2 P t kn l e O w S z/\Br r aq (λx=>C.getD x 0) w S z/\w[S.length]? =some x/\F3 r (λx=>C.getD x 0) w x D s/\i0 b E c6 (.dict (dV s))/\nQ S.length y.length (s.map (·.2))=some w.length/\E V=some (.list ((sortI ((r.at x).map (·.1))).map .int))/\∃w7 w8,m=[some (.ref d),some (.ref o),some (.ref c2),some (.ref P),some (.ref t),some (.int x),some (.ref c6),w7,w8])
   (OI y [] (Cd B j A ⟨rfl,(by intros;contradiction)⟩ F rfl kq.at_ (OI _ _ rfl))) (λD m E zf=>qX zf λ_ _ lF=>Cc lF λ_ _ _ _ _ _ h _=>h) ?_ ?_
  .intro D g r' m lQ hD lj K2 lN;refine qX lj λw s lJ=>y4 m lJ λB j A L F kx kz w7 w8=>?_
   have hg:=ip.mp (mid hD)
   have kV:=(G.tF ky).mp hg
   refine gi (G.qP ky kV) λY h1 h2 h3=>?_
   have kC:=ku Y h3
   have kH:=gy A
   have Vr:c6≠c2:=λq=>by have:=oi F.at_ (q▸B.ord.at_);contradiction
   have lK:g∉D:=λW=>by
    have:=(sortI_perm _).symm.nodup (G.ok.rP x)
    rw [hD,eP] at this
    exact this.2.2 g W g (.head _) rfl
   refine ei _ rfl (g8 (fq (a5 rfl) (B.le _ _ kD) (sd (fq (eO (a5 rfl) (B.le _ _ km.obj) rfl) (B.le _ _ km.steps) (a5 rfl) kK) (B.le _ _ kI) (a5 rfl) (.inl ⟨⟨_,rfl⟩,nO _⟩) (rM h1)) (HQ (kN▸h3))) ?_)
   refine yC (λm E=>∃I H,GN b E c2 P t kn l e O I S z/\Br r aq (λx=>C.getD x 0) I S z/\I[S.length]? =some x/\F3 r (λx=>C.getD x 0) I x D s/\i0 b E c6 (.dict (dV s))/\nQ S.length y.length (s.map (·.2)++[H])=some I.length/\I[H]? =some (C.getD Y 0)/\E V=some (.list ((sortI ((r.at x).map (·.1))).map .int))/\m=[some (.ref d),some (.ref o),some (.ref c2),some (.ref P),some (.ref t),some (.int x),some (.ref c6),some (.int g),some (.int (C.getD Y 0:Nat))])
    (λK3 kG=>yD (D8 (aw:=decide (C.getD Y 0∈w)) (a5 rfl) (a5 rfl) B.pl.at_ (.inl ⟨(oJ _ rfl),D9 _⟩) (decide_eq_true_iff.trans F4.symm) _ ?_)) ?_
   .have kJ:∀H,H<=w.length->nQ S.length y.length (s.map (·.2)++[H])=some (max w.length (H+1)):=λH kl=>by
     rw [F1,kx]
     exact if_neg λq=>q.elim (λq=>iY.mpr q kH) λq=>iY.mpr kl q
    by_cases W:C.getD Y 0∈w
    .rw [decide_eq_true W]
     refine j_ (eZ.mp W) λH kl=>?_
     exact kG _ _ ⟨w,H,B,j,A,L,F,(by rw [kJ H (eA (gy kl)),BL (gy kl)]),kl,kz,rfl⟩
    .rw [decide_eq_false W]
     refine wy (jd (a5 rfl) (f7 B.ord.at_)) (a5 rfl) B.pl.at_ (a5 rfl) (.inl ⟨(oJ _ rfl),D9 _⟩) ?_ λkO K=>?_
     .unfold QN;rw [xX]
      exact c4 (a_ j.Nr Z) (by unfold fE;decide)
     rw [jZ (λq=>W (F4.mp q)),bb,<-Nq] at K
     have lh:c2≠P:=λq=>by have:=oi B.ord.at_ (q▸B.pl.at_);contradiction
     refine qD (a5 rfl) ((K.ne c2 lh).trans B.ord.at_) ?_ (a5 rfl) λkY U=>kG _ _ ⟨(w++[C.getD Y 0]),w.length,(B.goal K (by rw [b_];exact U)),(j.more W ⟨kC.1,kW Y h3,u++[g],?_,.inr ?_⟩),(by rw [eN kH];exact A),(L.more _),((F.keep K h6.2).keep U Vr),(by rw [kJ _ (eJ _),bh];exact congrArg some (Ab (v3 _))),jz,((U.ne V k2).trans ((K.ne V k3).trans kz)),rfl⟩
     .rw [bb];exact c4 (a_ j.Nr Z) (by unfold fE;decide)
     .rw [<-tD,<-kZ];exact kC.2.trans h2
     .rw [kC.2,h2];exact kV
   .intro m kO lq;refine qX lq λI H lL=>G4 m lL λB j A L F kx kl kz=>?_
    refine wy (sd (a5 rfl) B.pl.at_ (a5 rfl) (.inl ⟨(oJ _ rfl),D9 _⟩) (Jd kl)) (a5 rfl) F.at_ (a5 rfl) (.inl ⟨(oJ _ rfl),nO _⟩) ?_ λkY U=>lN _ _ (OI I (s++[(g,H)]) (Cd (B.side F h6 U) j A ⟨?_,λp hp=>?_⟩ ?_ ?_ ((U.ne V k6).trans kz) (OI _ _ rfl)))
    .unfold dV;rw [bb,<-bb (f:=(·.1)),L.keys]
     have:D.length<=5:=by
      have h:=congrArg fi hD
      rw [(sortI_perm _).length_eq,bh] at h
      exact a_ (eg _ _) (h▸kT)
     exact rD this
    .rw [b_,L.keys];rfl
    .rcases eF.mp hp with hp |hp
     .exact L.to p hp
     .rw [dk.mp hp];exact ei Y h1 kl
    .have:=U.own (s0:=b) F.fr
     rw [jZ (λq=>lK (by rw [<-L.keys];exact DZ.mp q))] at this
     rw [show dV (s++[(g,H)])=dV s++[(.int g,.int H)] from b_ ..]
     exact this
    .rw [b_];exact kx
  .intro m lQ lG;refine qX lG λw s lP=>y4 m lP λB j A L F kx _ w7 w8=>?_
   have hT:r.steps.length<=1000:=Z
   have kP:=j.Nr
   have kM:S.length<fE:=c4 (a_ j.le (a_ kP Z)) (by unfold fE;decide)
   have ly:z.length=S.length:=by rw [j.es,bb,fR,j3 j.le]
   refine qD (eO (a5 rfl) B.au.obj rfl) B.au.steps (by rw [bb,kB];exact kM) (a5 rfl) λkO K=>?_
   have kU:=K.le B.le B.au.fl
   have lO:=(K.ne t λq=>by have:=oi B.au.obj (q▸B.au.steps);contradiction).trans B.au.obj
   have lu:=(K.ne e B.au.ne.symm).trans B.au.ends
   refine qD (eO (a5 rfl) lO rfl) lu (by rw [bb];show z.length<_;rw [ly];exact kM) (fq (eO (a5 rfl) (kU _ _ km.obj) rfl) (kU _ _ km.ends) (a5 rfl) (vl G.ok ky)) λkY U=>?_
   have e1:O.map AV.ref++[.ref c6]=(O++[c6]).map .ref:=by rw [b_];rfl
   have e2:z.map AV.int++[.int (r.end x)]=(z++[r.end x]).map .int:=by rw [b_];rfl
   rw [e1] at K
   rw [e2] at U
   have lg:(S++[s]).length=S.length+1:=bh ..
   refine lz _ _ _ ?_ (De w (S++[s]) (z++[r.end x]) (O++[c6]) (Dd rfl (B.push F h6 K U) (j.push A L) ?_ (De _ _ _ _ rfl)))
   .have:=eh kQ (a_ (gu rfl) ‹y.length<=r.steps.length›)
    rw [lg]
    exact i3 this (fG _)
   .rw [F2,ho]
    show nQ (0+S.length) y.length _=_
    rw [iW];exact kx
 .have B:=B.grow l2
  refine iM (a5 rfl) (L _ _ _ B.le (hP t y S z _ B.le ⟨_,_,_,_,B.au.au⟩ j (ir j.le ?_) ho))
  have J:=of_decide_eq_false J
  rw [bb,bb,kB] at J
  exact gR.mp (nq.mp J)
noncomputable def Oq (ks:List Int):List (AV×AV):=ks.map λg=>(.int g,.bool true)
theorem Bh (a:List Int):(Oq a).map (·.1)=a.map .int:=by unfold Oq;rw [er];rfl
theorem Je (b:List Int):IntKeys (Oq b):=λp a=>by
 refine iQ p (ck.mp a) λg _=>?_;exact ⟨g,rfl⟩
theorem PT (b:List Int) (a:Int):dictPut (Oq b) (.int a) (.bool true)=Oq (if a∈b then b else b++[a]):=by
 by_cases h:a∈b
 .rw [if_pos h]
  have c:AV.int a∈(Oq b).map (·.1):=by rw [Bh,qI];exact h
  refine (if_pos c).trans ((fk (g:=id) λp d=>?_).trans (Ia _))
  refine iQ p (ck.mp d) λx _=>?_
  by_cases e:AV.int x=AV.int a
  .exact (if_pos e).trans (by rw [<-e];rfl)
  .exact if_neg e
 .rw [if_neg h,jZ (by rw [Bh,qI];exact h)]
  unfold Oq;rw [b_];rfl
noncomputable def RT (A:Au):Prop:=∀i,DY ((A.at i).map (·.1))
theorem xN (a:a8.Nodup) (h:DY a8):a8.length<=5:=by
 refine a.length_le_of_subset (l₂:=[1,2,3,4,5]) λg b=>?_
 have:=h g b
 simp only [eK,ee,or_false]
 (first |exact five_n this |exact Dm this)
noncomputable def mY (A:Au) (g:Int):g9:=(eQ A.steps.length).map λn=>FC (A.step n g)
theorem Nt (b:a<r.steps.length):(mY r p)[a]? =some (FC (r.step a p)):=by
 unfold mY;rw [ed,ju b];rfl
theorem Nu:∀(a D:List (AV×AV)),((D++a).map (·.1)).Nodup->a.foldl (λd p=>dictPut d p.1 p.2) D=D++a:=by
 intro c
 induction c with
 |nil=>
  intro D _
  exact (eR D).symm
 |cons p a b=>
  intro D h
  have e:p.1∉D.map (·.1):=λq=>by
   rw [b_,eP] at h
   exact h.2.2 _ q p.1 (.head _) rfl
  show a.foldl _ (dictPut D p.1 p.2)=_
  rw [jZ e,b (D++[(p.1,p.2)]) (by rw [eC];exact h),eC];rfl
theorem PU {d:List (Int×AV)} (w:Al (eE PG (a+1)) e b g (gN b (d.map λp=>.tup [.int p.1,p.2]))) (r:(d.map (·.1)).Nodup) (f:∀c i,eD b i->i0 b i c (.dict (d.map λp=>(.int p.1,p.2)))->n (.ref c) i):Al (eE PG (a+1)) e b (.call (.cst (.bi 6)) (.cons g .nil)) n:=
 xB w λv x k u=>by
  refine jj v u λc t=>?_
  refine λQ m=>jI (.mk (.mk t.at_ ?_))
  refine gq (d.map λp=>(.int p.1,p.2)) (by rw [er];rfl) (λp f=>?_) (λc2 l=>?_)
  .refine iQ p (ck.mp f) λq _=>?_;exact oJ q.1 rfl
  .have s:(([]++d.map λp:Int×AV=>(AV.int p.1,p.2)).map λq:AV×AV=>q.1).Nodup:=by
    rw [BB,er]
    have:=B_ (R:=(·≠·)) (S:=(·≠·)) AV.int (λz y h q=>h (AV.int.inj q)) r
    rwa [er] at this
   rw [Nu _ _ s]
   have j:=fM (ay:=.dict (d.map λp=>(.int p.1,p.2))) l
   exact m _ _ j.le (f c2 _ (b4 k j.le) (j.own k))
theorem uT (h:mX b d r) (g:e[o]? =some (some (.ref d))):Ev (eE PG (a+4)) e b (.fL (.var o) 9 .nil) (.int r.steps.length):=λQ c=>by
 obtain ⟨i,l,k,j,f⟩:=id h
 exact jr (a5 g) f.obj rfl rfl rfl gP (sF (c_ 4 _) h c)
theorem PV (p:Nat->AV) (s:d<=fE) (x:Ev (eE PG (a+1)) e b D (.int d)) (o:∀i,i<d->∀f,eD b f->∃q,jN C (.int (i:Nat)) (bz.map λc=>c.bind λj=>(e[j]?).join)=some q/\Al (eE PG (a+1)) q f g λv _=>v=p i):
 Al (eE PG (a+1)) e b (.comp bz g C (.call (.cst (.bi 4)) (.cons D .nil)) .nil .nil) (gN b ((eQ d).map p)):=by
 have:=tx (i:=eE PG (a+1)) (b:=b) (e:=e) (bz:=bz) (g:=g) (ar:=.nil) (C:=C) (λ_=>true) p (eQ d) (λd=>.int (d:Nat)) (by rw [fc];exact s) (n:=λv _=>v= .pT 0 d 1) (gw dt (iJ x) λQ w=>tB (a:=a) (a_ s (by unfold fE;decide)) (w _ _ (ec _) rfl)) (λv y _ D=>(ei .pT (λ_ _=>trivial) (by rw [D];exact λQ=>p3)))
  λi k f l=>gq (o i (eU.mp k) f l).choose (o i (eU.mp k) f l).choose_spec.1 xC (λ_ u t=>?_)
 .rwa [jv.mpr λ_ _=>rfl] at this
 .refine eS (o i (eU.mp k) u (b4 l t)) λq r h=>?_
  rw [(o i (eU.mp k) f l).choose_spec.1] at r
  cases d3 r;exact h
theorem D_ (h:mX b d r) (hO:r.Ok) (hG:RT r) (hc:r.steps.length<=1000) (hP:∀c f u,eD b u->f.Nodup->(∀g,g∈f↔∃i,g∈(r.at i).map (·.1))->i0 b u c (.dict ((sortI f).map λg=>(.int g,tI (mY r g))))->n (.ref c) u):Cl (eE PG (a+6)) (.fn 63) [.ref d] b n:=by
 refine jO [some (.ref d),none,none,none] (c_ _ _) rfl rfl λk t R hR=>?_
 (injection t with t;subst t)
 obtain ⟨dx,l,e,W,H⟩:=id h
 have km:=H.AP.length
 have kq:∀s:List (Int×Nat),(dV s).map (·.1)=s.map λp=>AV.int p.1:=λs=>by unfold dV;rw [er];rfl
 refine zk λc s1 n1=>oR (eO (a5 rfl) (n1.le _ _ H.obj) rfl) (iG (.list l _) W .ref (λQ=>gH (n1.le _ _ H.steps)) (λA m u=>eD b u/\(∃f,i0 b u c (.dict (Oq f))/\f.Nodup/\DY f/\∀g,g∈f↔∃i,i<A.length/\g∈(r.at i).map (·.1))/\∃U C,m=[some (.ref d),some (.ref c),U,C])
  (qU n1.le ⟨[],n1.own (ec _),eI,(by (repeat intro _);contradiction),λg=>⟨(by intros;contradiction),λw=>eS w λi h _=>absurd h (o9 i)⟩⟩ _ _ rfl) (λ_ _ _ O=>O.1 _ _ H.steps) ?_ ?_)
 .intro A y r' m s2 hd kB K hK;refine rZ m kB λE B U C=>?_;refine r5 B λf o j z t=>?_
  have hy:W[A.length]? =some y:=by rw [hd];simp
  have kD:A.length<r.steps.length:=km▸gy hy
  refine eS (H.AP.get (yw kD)) λy' kn Z=>?_
  rw [hy] at kn;obtain rfl:=d3 kn
  refine ⟨_,rfl,oR (a5 rfl) (iG (.dict y _) (r.at A.length) (λp=>.int p.1) (λQ J=>vk (E _ _ Z) (nO _) (by rw [kq];exact J)) (λD m u=>eD b u/\(∃f,i0 b u c (.dict (Oq f))/\f.Nodup/\DY f/\∀g,g∈f↔(∃i,i<A.length/\g∈(r.at i).map (·.1))\/g∈D.map (·.1))/\∃C,m=[some (.ref d),some (.ref c),some (.ref y),C])
   ⟨E,⟨f,o,j,z,λg=>(t g).trans ⟨.inl,λh=>h.elim id (by intros;contradiction)⟩⟩,_,rfl⟩ (λ_ _ _ O=>(ei _ (O.1 _ _ Z) (kq _))) ?_ ?_)⟩
  .intro D p r2 m F hD kx K2 kC;refine Ll m kx λG B C=>?_;refine r5 B λf o j z t=>?_
   have ky:=hG A.length p.1 (fC (mid hD))
   refine ei _ rfl (wy dt (a5 rfl) o.at_ (a5 rfl) (.inl ⟨⟨_,rfl⟩,Je _⟩) (by unfold Oq;rw [bb];exact rD (xN j z)) λs4 Y=>kC _ _ ⟨Y.le G o.fr,⟨if p.1∈f then f else f++[p.1],?_,?_,?_,λg=>?_⟩,_,rfl⟩)
   .rw [<-PT];exact Y.own o.fr
   .split
    .exact j
    .rename_i T
     exact eP.mpr (iz j (eT.mpr ⟨ee,eI⟩) (λd ha kF hb q=>T (by rw [<-dk.mp hb,<-q];exact ha)))
   .split
    .exact z
    .exact λg M=>(eF.mp M).elim (z g) λh=>by rw [dk.mp h];exact ky
   .rw [b_,eF,<-or_assoc,<-t g]
    have hs:g∈[p].map (·.1)↔g=p.1:=dk
    rw [hs]
    split
    .rename_i T;exact ⟨.inl,λh=>h.elim id λh=>h▸T⟩
    .rw [eF,dk]
  .intro m F kz;refine Ll m kz λG B C=>?_;refine r5 B λf o j z t=>?_
   refine hK _ _ (qU G ⟨f,o,j,z,λg=>(t g).trans ⟨λh=>?_,λw=>eS w λi N M=>?_⟩⟩ _ _ rfl)
   .rw [bh]
    exact h.elim (λw=>eS w λi V h2=>(ei i (jq V) h2)) λh=>ei A.length (fG _) h
   .rw [bh] at N
    rcases ED.mp N with V |rfl
    .exact .inl (ei i V M)
    .exact .inr M
 .intro m s2 ku;refine rZ m ku λE B U C=>?_;refine r5 B λf o j z t=>?_
  have kl:=xN j z
  refine sh (PU (a:=a+4) (d:=(sortI f).map λg=>(g,tI (mY r g))) (qp (xD (λg=>.tup [.int g,tI (mY r g)]) (eA (rD (by rw [(sortI_perm _).length_eq];exact kl))) (gw dt (iJ (a5 rfl)) (sJ (a:=a+4) (λQ J=>q8 o.at_ (Je _) Q (by rw [Bh];exact J)) kl)) λg M F I=>(ei [none,some (.int g),some (.ref d)] rfl (IZ (a5 rfl) (pZ (a:=a+4) (n:=λv _=>v=tI (mY r g)) (j:=(mY r g).map .int) ?_ λ_ _=>rfl)))) λv F _ L=>?_) ?_ (n:=n) λc2 F I S=>hP c2 f F (b4 E I) j (λg=>(t g).trans ⟨λw=>eS w λi _ h=>⟨i,h⟩,λw=>j_ w λi h=>?_⟩) ?_) λv F I L=>hR _ _ _ (b4 E I) L
  .have G:=b4 E I
   have X:=h.le G
   refine qp (PV (a:=a+4) (λi=>.int (FC (r.step i g))) (a_ hc (by unfold fE;decide)) (uT (a:=a+1) X rfl) λi N s4 l4=>(ei [none,some (.int i),some (.int g),some (.ref d)] rfl (λQ J=>jr (a5 rfl) (l4 _ _ (G _ _ H.obj)) rfl rfl rfl (iL (a5 rfl) (a5 rfl)) (yx (c_ 3 _) (X.le l4) N (J _ _ (ec _) rfl))))) λv s4 _ L=>?_
   rw [show (mY r g).map AV.int=_ from er ..];exact L
  .rw [er];exact L
  .rw [er,show ((λx:Int×AV=>x.1)∘λg=>(g,tI (mY r g)))=id from rfl,Ia]
   exact (sortI_perm f).symm.nodup j
  .refine eS (ck.mp h) λp hp _=>?_
   exact ei i (km▸(wx hp).1) h
  .rw [er] at S;exact ⟨S.at_,jE E S.fr⟩
structure F5 (st:AS) (tb dx ca rw en:Nat) (rs:List Nat) (A:Au) (s:List (Int×Nat)) (C:List g9):Prop where
 obj:st tb=some (.inst 8 dx [(33,.ref ca),(58,.ref rw),(55,.ref en)])
 cls:zj st ca s
 rows:st rw=some (.list (rs.map .ref))
 len:rs.length=A.steps.length
 row:∀(i:Nat) r,rs[i]? =some r->st r=some (.list (C.map λc=>.int (c.getD i (-1))))
 ends:st en=some (.list (A.ends.map .int))
 col:∀g,C[(s.lookup g).getD 0]? =some (mY A g)
inductive F6 (st:AS) (tb:Nat) (A:Au) (s:List (Int×Nat)) (C:List g9):Prop where
 |mk (dx ca rw en:Nat) (rs:List Nat) (h0:F5 st tb dx ca rw en rs A s C):F6 st tb A s C
variable {aM:List g9}
theorem F5.le (h:F5 b a d o I ak C r aD aM) (c:eD b q):F5 q a d o I ak C r aD aM:=⟨c _ _ h.obj,h.cls.le c,c _ _ h.rows,h.len,λi f e=>c _ _ (h.row i f e),c _ _ h.ends,h.col⟩
theorem PW {st:AS} {n:Nat} {Q:AV->AS->Prop} {A:Au} {s:List (Int×Nat)} {C:List g9} {tb dx ca rw en k:Nat} {rs:List Nat} {g:Int} (h:F5 st tb dx ca rw en rs A s C) (hk:k<A.steps.length) (hQ:Q (.int (FC (A.step k g))) st):eE PG (n+5) (.fn 62) [.ref tb,.int k,.int g] st Q:=by
 obtain ⟨dxc,d,hc,hd⟩:=id h.cls
 have hk':k<rs.length:=h.len▸hk
 have hr:=df hk'
 have hcl:Ev (eE PG (n+4)) [some (.ref tb),some (.int k),some (.int g)] st (.fL (.attr (.var 0) 33) 4 (.cons (.var 2) .nil)) (.int (((s.lookup g).getD 0:Nat))):=λQ hQ=>jr (eO (a5 rfl) h.obj rfl) hc rfl rfl rfl (iJ (a5 rfl)) (sf (c_ 3 _) h.cls hQ)
 refine gO [some (.ref tb),some (.int k),some (.int g)] (c_ 2 _) rfl rfl (iM (fq (fq (eO (a5 rfl) h.obj rfl) h.rows (a5 rfl) (by rw [ed,hr];rfl)) (h.row k _ hr) hcl (by rw [ed,h.col g];rfl)) (ei _ (ec _) ?_))
 show Q (.int ((mY A g).getD k (-1))) st
 rw [d_,Nt hk];exact hQ
theorem oZ (h:r.step a p=some d):iC r a o dg (p::a8)=iC r d (o+1) (if r.end d= -1 then dg else (o+1,r.end d)) a8:=by
 show (match r.step a p with |none=>dg |some d=>iC r d (o+1) (if r.end d= -1 then dg else (o+1,r.end d)) a8)=_
 rw [h]
theorem nR (h:r.step a p=none):iC r a d dg (p::a8)=dg:=by
 show (match r.step a p with |none=>dg |some t=>iC r t (d+1) (if r.end t= -1 then dg else (d+1,r.end t)) a8)=_
 rw [h]
theorem F7 (A:Au):∀(r:List Int) (k a x:Nat) (b:Nat×Int),iC A k a b r=if (iC A k a (x,-1) r).2= -1 then b else iC A k a (x,-1) r:=by
 intro i
 induction i with
 |nil=>
  intro _ _ _ _
  exact (if_pos rfl).symm
 |cons g r e=>
  intro k a x b
  induction c:A.step k g with
  |none=>rw [nR c,nR c];exact (if_pos rfl).symm
  |some t=>
   rw [oZ c,oZ c]
   by_cases h:A.end t= -1
   .simp only [if_pos h];exact e t _ x b
   .simp only [if_neg h]
    have f:∀p:Nat×Int,(if p.2= -1 then ((a+1,A.end t):Nat×Int) else p).2≠-1:=λp=>by
     by_cases d:p.2= -1
     .rw [if_pos d];exact h
     .rw [if_neg d];exact d
    have:=e t (a+1) 0 (a+1,A.end t)
    exact (if_neg (by rw [this];exact f _)).symm
theorem Km (A:Au) (c:Nat) (a:0<a8.length):iC A 0 c (c+1,a8.headD 0) a8=(c+(fX [A] a8).1,(fX [A] a8).2):=by
 rw [F7 A a8 0 c c,CK,qO]
 by_cases h:(j6 A a8).2= -1
 .rw [if_pos h,if_pos h]
 .rw [if_neg h,if_neg h]
theorem zI (D:F6 b d r aD aM) (G:r.Ok) (u:b o=some (.list (a8.map .int))) (hl:a8.length<=10000):Cl (eE PG (a+6)) (.fn 65) [.ref d,.ref o] b (gN b ((iF (fX [r]) a8.length a8).map .int)):=by
 obtain ⟨dx,ca,rw,en,rs,D⟩:=D
 refine jO [some (.ref d),some (.ref o),none,none,none,none,none,none] (c_ _ _) rfl rfl λk A R hR=>?_
 (injection A with A;subst A)
 refine sG gP λc s1 n1=>g8 dt (oM a8.length (λN m x=>∃(p:Nat) (z:List Int) (B w C y:Option AV),m=[some (.ref d),some (.ref o),some (.ref c),some (.int p),B,w,C,y]/\eD b x/\i0 b x c (.list (z.map .int))/\p<=a8.length/\N=a8.length -p/\z.length<=p/\
  z++iF (fX [r]) (a8.length -p) (a8.drop p)=iF (fX [r]) a8.length a8)
  (ur 0 [] _ _ _ _ (uq rfl n1.le (n1.own (ec _)) (ft _) rfl (eJ _) rfl)) ?_)
 intro N m x kI K hK;refine EI kI λp z B w C y kG=>Ad kG λO Y H E P W V=>?_;subst O;subst P
 have kl:=Y _ _ u
 have T:∀{m:MM} {b:AS},m[1]? =some (some (.ref o))->b o=some (.list (a8.map .int))->Ev (eE PG (a+5)) m b (.call (.cst (.bi 0)) (.cons (.var 1) .nil)) (.int a8.length):=λhm u=>by
  have:=jd (a:=a+4) (a5 hm) (f7 u)
  rwa [bb] at this
 refine ei _ (pv (f9 (fU (a5 rfl) (T rfl kl) (n0 rfl)))) (λkz L=>⟨λj=>?_,λj=>?_⟩)
 .have J:p<a8.length:=h9.mp (of_decide_eq_true j)
  have I:=b4 Y L
  have kB:=I _ _ u
  have U:(a8.map AV.int)[p]? =some (.int a8[p]):=by rw [ed,df J];rfl
  have kF:a8.drop p=a8[p]::a8.drop (p+1):=fP J
  have X:0<(a8.drop p).length:=by rw [ey];exact iX J
  have kx:=Km r p X
  rw [show (a8.drop p).headD 0=a8[p] by rw [kF];rfl] at kx
  have h2:=D.le I
  have Z:=q9 [r] X
  generalize hq:fX [r] (a8.drop p)=q at*
  have ku:∀B y s,eD kz s->jo PG (eE PG (a+5)) (.cons (.ex (.fL (.var 2) 0 (.cons (.var 6) .nil))) (.cons (.asg 3 (.var 5)) .nil)) [some (.ref d),some (.ref o),some (.ref c),some (.int p),B,some (.int (p+q.1:Nat)),some (.int q.2),y] s (Lp (eE PG (a+5)) (.cons (.ret (.var 2)) .nil) R K):=λB y s i=>by
   rw [ey] at Z
   have kO:p+q.1<=a8.length:=by have:=d5 Z.1 p;rwa [ru E] at this
   have kn:p<p+q.1:=gj Z.2
   refine qD (a5 rfl) (i _ _ (L _ _ H.at_)) (by rw [bb];exact c4 (a_ W (a_ E hl)) (by unfold fE;decide)) (a5 rfl) λkQ u3=>g8 (a5 rfl) (hK _ _ _ ?_ (ur (p+q.1) (z++[q.2]) _ _ _ _ (uq rfl (u3.le (b4 I i) H.fr) ?_ kO rfl ?_ ?_)))
   .exact i3 J kn
   .rw [b_];exact u3.own H.fr
   .rw [bh];exact a_ (fg W) kn
   .have e1:=sN _ (p6 r) X
    rw [ey,hq,ig,ey] at e1
    rw [eC,<-V,e1];rfl
  refine q_ (g5 (vE dt (ia (a5 rfl) dt rfl) (fq (a5 rfl) kB (a5 rfl) U))) rfl (by decide) (g8 (a5 rfl) ?_)
  refine oM (a8.length -p) (λN m x=>eD kz x/\∃(k e:Nat) (g:Nat×Int),m=[some (.ref d),some (.ref o),some (.ref c),some (.int p),some (.int k),some (.int g.1),some (.int g.2),some (.int e)]/\k<r.steps.length/\e<=a8.length/\N=a8.length -e/\iC r k e g (a8.drop e)=(p+q.1,q.2))
   (Lj (ec _) 0 p (p+1,a8[p]) (Dd rfl G.pos E rfl kx)) ?_
  intro N m kP kD K2 kK;refine Q4 kD λS k e g kJ=>qk kJ λO A kN P f=>?_;subst O;subst P
  refine ei _ (pv (f9 (fU (a5 rfl) (T rfl (S _ _ kB)) (n0 rfl)))) (λs i=>⟨λj=>?_,λj=>?_⟩)
  .have i:=b4 S i
   have M:e<a8.length:=h9.mp (of_decide_eq_true j)
   have km:=b4 I i
   have F:=D.le km
   have U:(a8.map AV.int)[e]? =some (.int a8[e]):=by rw [ed,df M];rfl
   rw [fP M] at f
   refine g8 (λQ hQ=>jr (a5 rfl) F.obj rfl rfl rfl (iL (a5 rfl) (fq (a5 rfl) (km _ _ u) (a5 rfl) U)) (PW (n:=a) F A hQ)) ?_
   refine ki (f9 (fU (a5 rfl) dt (eq_int rfl))) (λv=>?_) λv=>?_
   .induction l:r.step k a8[e] using d7 with
    |some t=>
     rw [l] at v
     have:((t:Nat):Int)= -1:=of_decide_eq_true v
     exact (JA this.symm).elim
    |none=>
     rw [nR l] at f
     subst f
     exact QF (ku _ _ _ i)
   .induction l:r.step k a8[e] using d7 with
    |none=>rw [l] at v;exact absurd v (by decide)
    |some t=>
     rw [oZ l] at f
     have kC:=n_ G l
     have kq:∀g:Nat×Int,iC r t (e+1) g (a8.drop (e+1))=(p+q.1,q.2)->K2 [some (.ref d),some (.ref o),some (.ref c),some (.int p),some (.int t),some (.int g.1),some (.int g.2),some (.int (e+1:Nat))] s:=λg f=>kK _ _ _ (i3 M (fG _)) (Lj i t (e+1) g (Dd rfl kC M rfl f))
     have ky:∀w C,Ev (eE PG (a+5)) [some (.ref d),some (.ref o),some (.ref c),some (.int p),some (.int t),w,C,some (.int (e+1:Nat))] s (.sub (.attr (.var 0) 55) (.var 4)) (.int (r.end t)):=λw C=>fq (eO (a5 rfl) F.obj rfl) F.ends (a5 rfl) (vl G kC)
     refine s_end (g8 (ia (a5 rfl) dt rfl) (ki (f9 (fU (ky _ _) dt (ne_int rfl))) (λh=>?_) λh=>?_))
     .have h:r.end t≠-1:=λq=>by rw [q] at h;exact absurd h (by decide)
      rw [if_neg h] at f
      exact q_ (g5 (iL (a5 rfl) (ky _ _))) rfl (by decide) (kq (e+1,r.end t) f)
     .have h:r.end t= -1:=gg λq=>by rw [decide_eq_false q] at h;exact absurd h (by decide)
      rw [if_pos h] at f
      exact kq g f
  .have kH:e=a8.length:=ir kN (gR.mp (nq.mp (of_decide_eq_false j)))
   rw [kH,ot] at f
   have f:g=(p+q.1,q.2):=f
   subst f
   exact ku _ _ _ (b4 S i)
 .have kM:p=a8.length:=ir E (gR.mp (nq.mp (of_decide_eq_false j)))
  clear G u hl D n1 E hK W kl T j;subst kM
  rw [jB,show iF (fX [r]) 0 (a8.drop a8.length)=[] from rfl,eR] at V
  subst V
  exact iM (a5 rfl) (hR _ _ _ (b4 Y L) (ei c rfl (H.le L)))
noncomputable def rR:Nat->List Nat->Option Nat
 |k,[]=>some k
 |k,t::ts=>if t>k+1 then none else rR (max k t) ts
theorem Bi (t:Nat):∀(a:List Nat) (k:Nat),rR k (a++[t])=(rR k a).bind λb=>if t>b+1 then none else some (max b t):=by
 intro d
 induction d with
 |nil=>
  intro k
  exact rfl
 |cons u a c=>
  intro k
  show (if _ then _ else _)=(if _ then _ else _:Option Nat).bind _
  by_cases h:u>k+1
  .rw [if_pos h,if_pos h];rfl
  .rw [if_neg h,if_neg h];exact c _
noncomputable def QO (D:List g9):List (AV×AV):=D.mapIdx λ(j:Nat) (c:g9)=>(tI c,.int (j+1:Nat))
theorem Nv (D:List g9) (c:g9):QO (D++[c])=QO D++[(tI c,.int (D.length+1:Nat))]:=KR
theorem Jf (h:aM[a]? =some av):(tI av,AV.int (a+1:Nat))∈QO aM:=by
 obtain ⟨c,b⟩:=ew.mp h
 exact o7.mpr ⟨a,c,by rw [b]⟩
theorem F8:tI av∈(QO aM).map (·.1)↔av∈aM:=by
 constructor
 .intro h
  refine eS (ck.mp h) λp c e=>?_
  obtain ⟨i,b,rfl⟩:=o7.mp c
  have:aM[i]=av:=Hw e
  exact this▸fN b
 .intro h
  obtain ⟨t,a⟩:=eZ.mp h
  exact ck.mpr (ei _ (Jf a) rfl)
theorem Ea (c:g9) (D:List g9):tc (tI c) (QO D):=.inr ⟨⟨⟨_,rfl⟩,DX 3 _⟩,λp a=>by
 obtain ⟨i,b,rfl⟩:=o7.mp a;exact ⟨⟨_,rfl⟩,DX 3 _⟩⟩
noncomputable def mK (A:Au):g9:=gk A.steps.length (-1)
structure yI (A:Au) (D:List Int) (Dc:List g9) (s:List (Int×Nat)):Prop where
 keys:s.map (·.1)=D
 nd:Dc.Nodup
 mem:∀c∈Dc,∃g∈D,c=mY A g
 at_:∀p∈s,∃j,p.2=j+1/\Dc[j]? =some (mY A p.1)
 num:rR 0 (s.map (·.2))=some Dc.length
theorem list_list (g:b d=some (.list j)) (h:∀c e,sg b e c (.list j)->n (.ref c) e):eE PG (a+1) (.bi 10) [.ref d] b n:=jI (.mk (.list g λc f=>h c _ (fM f)))
theorem F9 (h:∀c d,sg b d c (.list j)->n (.ref c) d):eE PG (a+1) (.bi 10) [.tup j] b n:=jI (.mk (.tup λc e=>h c _ (fM e)))
theorem F_ (h:VE PG i g e b λc b=>VE PG i D e b λa b=>VE PG i aL e b λd b=>i l [c,a,d] b n):VE PG i (.call (.cst l) (.cons g (.cons D (.cons aL .nil)))) e b n:=h
theorem Eb (h:VE PG i g e b λv b=>j.length<fE/\bL (j++[v]) b):Oi PG i .nil e b λt b=>if t then VG PG i (VE PG i g) .nil e j b bL else bL j b:=h
theorem Jg (h:VE PG i g e b λv b=>∀c,b.free c->n (.ref c) (b.set c (.list [v]))):VE PG i (.lst (.cons g .nil)) e b n:=h
theorem sP (h:∀i,p∉(r.at i).map (·.1)):mY r p=mK r:=by
 unfold mY mK
 refine G0.mpr ⟨by rw [bb,fc],λx a=>?_⟩
 refine iQ x (ck.mp a) λi _=>?_
 induction b:r.step i p with
 |none=>rfl
 |some t=>exact absurd (nP.mp (by rw [show (r.at i).lookup p=some t from b];rfl)) (h i)
theorem yI.same (h:yI r a8 aM aD) (f:aM[a]? =some (mY r p)):yI r (a8++[p]) aM (aD++[(p,a+1)]) where
 keys:=by rw [b_,h.keys];rfl
 nd:=h.nd
 mem c i:=eS (h.mem c i) λx g e=>(ei x (fQ _ g) e)
 at_ j b:=(eF.mp b).elim (h.at_ j) λb=>by rw [dk.mp b];exact ei a rfl f
 num:=by
  have d:=gy f
  rw [b_,show ([(p,a+1)]:List (Int×Nat)).map (·.2)=[a+1] from rfl,Bi,h.num]
  show (if a+1>aM.length+1 then none else some (max aM.length (a+1)))=_
  rw [if_neg (iY.mpr (fY d)),BL d]
theorem yI.more (h:yI r a8 aM aD) (k:mY r p∉aM):yI r (a8++[p]) (aM++[mY r p]) (aD++[(p,aM.length+1)]) where
 keys:=by rw [b_,h.keys];rfl
 nd:=eP.mpr (iz h.nd (eT.mpr ⟨ee,eI⟩) (λa m b l q=>k (by rw [<-dk.mp l,<-q];exact m)))
 mem c f:=(eF.mp f).elim (λf=>eS (h.mem c f) λx i e=>(ei x (fQ _ i) e)) λf=>ei p (fS _ (.head _)) (dk.mp f)
 at_ n d:=(eF.mp d).elim (λd=>eS (h.at_ n d) λj e g=>(ei j e (by rw [eN (gy g)];exact g))) λd=>by
  rw [dk.mp d];exact ei aM.length rfl jz
 num:=by
  rw [b_,show ([(p,aM.length+1)]:List (Int×Nat)).map (·.2)=[aM.length+1] from rfl,Bi,h.num,bh]
  show (if aM.length+1>aM.length+1 then none else some (max aM.length (aM.length+1)))=_
  rw [if_neg (jg _),Ab (v3 _)];rfl
theorem yJ (h:mX b d r) (hO:r.Ok) (hG:RT r) (G:r.steps.length<=1000) (hP:∀tb x u s w,eD b w->x.Nodup->(∀g,g∈x↔∃i,g∈(r.at i).map (·.1))->yI r (sortI x) u s->F6 w tb r s (mK r::u)->n (.ref tb) w):Cl (eE PG (a+7)) (.fn 64) [.ref d] b n:=by
 refine jO [some (.ref d),none,none,none,none,none,none,none] (c_ _ _) rfl rfl λk hk R hR=>?_
 (injection hk with hk;subst hk)
 obtain ⟨dx,l,e,ds,hA⟩:=id h
 refine je (g6 dt (iJ (a5 rfl)) (D_ (a:=a) (n:=λv w=>∃c x,v= .ref c/\eD b w/\x.Nodup/\(∀g,g∈x↔∃i,g∈(r.at i).map (·.1))/\w c=some (.dict ((sortI x).map λg=>(.int g,tI (mY r g))))) h hO hG G (λc x w hl hn hk lH=>⟨c,x,rfl,hl,hn,hk,lH.at_⟩) _ ?_))
 intro _ A _ lr;refine gp lr λc1 x H l1 hn kB ky=>?_;subst H
 have lB:DY x:=λg hg=>by refine j_ ((kB g).mp hg) λi z=>?_;exact hG i g z
 have kT:(sortI x).length<=5:=by rw [(sortI_perm _).length_eq];exact xN hn lB
 have kH:(sortI x).Nodup:=(sortI_perm x).symm.nodup hn
 refine zk λc2 s2 M=>zk λX s3 Y=>je (Jg (jJ (yH (si (iJ dt) λc0 s4 n4=>uT (a:=a+2) (h.le (b4 l1 (b4 M.le (b4 Y.le n4.le)))) rfl _ (mul_list n4.at_ (a_ G (by unfold fE;decide)) (by rw [i9,UE];exact a_ G (by unfold fE;decide)) λc5 s5 n5=>tuple_list (a:=a+5) n5.at_ λV lg=>?_)))))
 have J:=fM (ay:=.list [AV.tup (gk r.steps.length [AV.int (-1)]).flatten]) lg
 generalize va s5 V _=s6 at*
 have hz:AV.tup (gk r.steps.length [AV.int (-1)]).flatten=tI (mK r):=by unfold tI mK;rw [Bg,xW]
 rw [hz] at J
 have kl:eD s2 s5:=b4 Y.le (b4 n4.le n5.le)
 have kI:eD s3 s5:=b4 n4.le n5.le
 have kP:eD A s6:=b4 M.le (b4 kl J.le)
 have kM:=Y.ne M.at_
 have kG:=J.ne (kl _ _ M.at_)
 have kO:=J.ne (kI _ _ Y.at_)
 have kJ:((sortI x).map λg=>(AV.int g,tI (mY r g))).map (·.1)=(sortI x).map .int:=by rw [er];rfl
 have kN:IntKeys ((sortI x).map λg=>(AV.int g,tI (mY r g))):=λp hp=>by refine iQ p (ck.mp hp) λg _=>?_;exact oJ g rfl
 refine oR (a5 rfl) (iG (.dict c1 _) (sortI x) .int (λQ hQ=>vk (kP _ _ ky) kN (by rw [kJ];exact hQ)) (λD m w=>eD A w/\(∃u s,i0 A w c2 (.dict (QO u))/\i0 A w X (.dict (dV s))/\i0 A w V (.list ((mK r::u).map tI))/\u.length<=D.length/\yI r D u s)/\∃w5 w6,m=[some (.ref d),some (.ref c1),some (.ref c2),some (.ref X),some (.ref V),w5,w6,none])
  (qU kP ⟨[],[],⟨J.le _ _ (kl _ _ M.at_),M.fr⟩,⟨J.le _ _ (kI _ _ Y.at_),jE M.le Y.fr⟩,⟨J.at_,jE (b4 M.le kl) J.fr⟩,eJ _,⟨rfl,eI,(by intros;contradiction),(by intros;contradiction),rfl⟩⟩ _ _ rfl) (λD m w h'=>(ei _ (h'.1 _ _ ky) kJ)) ?_ ?_)
 .intro D g r' m s7 hD kZ K hK;refine rZ m kZ λZ H w5 w6=>?_;refine gp H λu s E L B N C=>?_
  have kC:D.length<5:=eh (by rw [hD,bh,e_];exact gj (fz _)) kT
  have kY:=mid hD
  have lE:g∉D:=λO=>by
   rw [hD,eP] at kH
   exact kH.2.2 g O g (.head _) rfl
  refine ei _ rfl (g8 (sd (a5 rfl) (Z _ _ ky) (a5 rfl) (.inl ⟨⟨_,rfl⟩,kN⟩) (ck.mpr ⟨g,kY,rfl⟩)) ?_)
  refine yC (λm w=>eD A w/\(∃u j,i0 A w c2 (.dict (QO u))/\i0 A w X (.dict (dV s))/\i0 A w V (.list ((mK r::u).map tI))/\u.length<=D.length+1/\u[j]? =some (mY r g)/\yI r (D++[g]) u (s++[(g,j+1)]))/\m=[some (.ref d),some (.ref c1),some (.ref c2),some (.ref X),some (.ref V),some (.int g),some (tI (mY r g)),none])
   (λK3 kD=>yD (D8 (aw:=decide (mY r g∈u)) (a5 rfl) (a5 rfl) E.at_ (Ea _ _) (decide_eq_true_iff.trans F8.symm) _ ?_)) ?_
  .by_cases O:mY r g∈u
   .rw [decide_eq_true O]
    refine j_ (eZ.mp O) λj hj=>?_
    exact kD _ _ (iz Z ⟨u,j,E,L,B,fY N,hj,C.same hj⟩ rfl)
   .rw [decide_eq_false O]
    refine wy (jd (a5 rfl) (f7 B.at_)) (a5 rfl) E.at_ (a5 rfl) (Ea _ _) (by unfold QO;rw [xX];exact rD (a_ N (eA kC))) λs8 u8=>?_
    rw [jZ (λq=>O (F8.mp q)),bb,show (mK r::u).length=u.length+1 from rfl,<-Nv] at u8
    have lh:=B.keep u8 kG.symm
    refine qD (a5 rfl) lh.at_ (by rw [bb];exact rD (a_ (fg N) kC)) (a5 rfl) λs9 F=>kD _ _ (iz (F.le (u8.le Z E.fr) B.fr) ⟨u++[mY r g],u.length,(u8.own E.fr).keep F kG,(L.keep u8 kM.symm).keep F kO,?_,by rw [bh];exact fg N,jz,C.more O⟩ rfl)
    have:=F.own (s0:=A) B.fr
    rw [show (mK r::(u++[mY r g])).map tI=(mK r::u).map tI++[tI (mY r g)] by rw [<-iI,b_];rfl]
    exact this
  .intro m s8 lq;refine S6 m lq λl8 H=>?_;refine iP H λu j E L B N hj lD=>?_
   refine wy (sd (a5 rfl) E.at_ (a5 rfl) (Ea _ _) (Jf hj)) (a5 rfl) L.at_ (a5 rfl) (.inl ⟨(oJ _ rfl),nO _⟩) ?_ λs9 F=>hK _ _ (qU (F.le l8 L.fr) ⟨u,s++[(g,j+1)],E.keep F kM,?_,B.keep F kO.symm,by rw [bh];exact N,lD⟩ _ _ rfl)
   .unfold dV;rw [bb,<-bb (f:=(·.1)),C.keys];exact rD (eA kC)
   .have:=F.own (s0:=A) L.fr
    rw [jZ (λq=>lE (by rw [<-C.keys];exact DZ.mp q))] at this
    rw [show dV (s++[(g,j+1)])=dV s++[(.int g,.int (j+1:Nat))] from b_ ..]
    exact this
 .intro m s7 lz;refine rZ m lz λZ H w5 w6=>?_;refine gp H λu s E L B N C=>?_
  have h7:=h.le (b4 l1 Z)
  refine je (zY (jJ (uT (a:=a+2) h7 rfl _ (tB (a:=a+5) (a_ G (by decide)) ?_))))
  have lF:(mK r::u).length<=fE:=a_ (fg (a_ N kT)) (by unfold fE;decide)
  have lA:∀c∈mK r::u,c.length=r.steps.length:=λc G=>by
   rcases eK.mp G with rfl |G
   .exact pU
   .refine Lg c (C.mem c G) λg _=>?_
    unfold mY;rw [bb,fc]
  refine tv .pT (eQ r.steps.length) (λk=>.int (k:Nat)) (λQ=>p3) (λS km w=>eD s7 w/\∃I:List Nat,km=I.map .ref/\I.length=S.length/\∀(i:Nat) W,I[i]? =some W->w W=some (.list ((mK r::u).map λc=>.int (c.getD i (-1))))) ⟨(ec _),[],rfl,rfl,(by intros;contradiction)⟩ (λ_ _ _ _=>trivial) ?_ ?_
  .intro S y r' km w hd lC K hK;refine G6 km lC λhl I T kz=>?_
   refine Qm y (rn hd) λkK=>?_
   refine ei [none,some (.int S.length),some (.ref V)] rfl (Eb (tA (λc:g9=>.int (c.getD S.length (-1))) lF (a5 rfl) (hl _ _ B.at_) (λc kX s8 l8=>⟨[none,some (tI c),some (.int S.length)],rfl,jG (pk (a5 rfl) (a5 rfl) ?_) rfl⟩) _ λv s8 l8 hv=>?_))
   .have ly:S.length<c.length:=by rw [lA c kX];exact kK
    rw [ed,d_,df ly];rfl
   .refine jj v hv λr8 o8=>?_
    refine ⟨?_,hK _ _ ⟨(b4 hl l8),(I++[r8]),(by rw [b_];rfl),(by rw [bh,bh,T];rfl),(λi W z=>?_)⟩⟩
    .rw [bb,T];exact eh kK (a_ G (by unfold fE;decide))
    .rcases j' i I.length with kn |kn
     .rw [eN kn] at z
      exact l8 _ _ (kz i W z)
     .rw [fj kn] at z
      have h0:i -I.length=0:=iZ.mp (gy z)
      rw [h0] at z
      (injection z with z;subst z)
      rw [show i=S.length by rw [<-T];exact ir (ui.mp h0) kn]
      exact o8.at_
  .intro km s8 s9 c7 lj n9;refine Lr lj λhl I H T kz=>?_;subst H
   rw [fc] at T
   have kW:=b4 hl n9.le
   refine AR (F_ (g6 dt (iJ (a5 rfl)) (tq (c_ 4 _) λca kF f1 f2 f3=>?_)))
   have kq:=fM (ay:=.inst 0 kF [(33,.ref X)]) f1
   generalize va s9 ca _=lI at*
   have kU:=b4 kW kq.le
   have ku:=b4 l1 (b4 Z kU)
   refine a5 rfl _ (jJ (eO (a5 rfl) (ku _ _ hA.obj) rfl _ (list_list (a:=a+5) (ku _ _ hA.ends) λen lx kV=>AL (c_ 4 _) λtb kQ f1 f2 f3=>?_)))
   have kx:=fM (ay:=.inst 8 kQ [(33,.ref ca),(58,.ref c7),(55,.ref en)]) f1
   generalize va lx tb _=lG at*
   have U:=b4 kV.le kx.le
   refine hR _ _ _ (b4 ku U) (hP tb x u s lG (b4 ku U) hn kB C ⟨kQ,ca,c7,en,I,kx.at_,⟨kF,X,U _ _ kq.at_,b4 kU U _ _ L.at_⟩,b4 kq.le U _ _ n9.at_,T,λi W z=>b4 (b4 n9.le kq.le) U _ _ (kz i W z),kx.le _ _ kV.at_,λg=>?_⟩)
   induction hs:s.lookup g using d7 with
   |some t=>
    refine eS (C.at_ _ (oS hs)) λj e1 e2=>?_
    have e1:t=j+1:=e1
    rw [e1];exact e2
   |none=>
    have lu:g∉x:=λq=>lookup_none hs (by rw [C.keys];exact ip.mpr q)
    rw [sP λi z=>lu ((kB g).mpr (oJ i z))];rfl
noncomputable def yK (w:g9) (b:Nat×Int) (r:Row):Nat×Int:=if w.take r.1.length=r.1 then (1+r.1.length,r.2) else b
noncomputable def wA (s:g9) (b:Nat×Int) (T:Table):Nat×Int:=((T.lookup (s.headD 0)).getD []).reverse.foldl (yK (s.drop 1)) b
noncomputable def i4 (Ts:List Table) (s:g9):Nat×Int:=Ts.reverse.foldl (wA s) (1,s.headD 0)
theorem Bj {f:t->h->t} (c:∀b x,dB b->dB (f b x)):∀(l:List h) (b:t),dB b->dB (l.foldl f b)
 |[],_,a=>a
 |x::l,b,a=>Bj c l _ (c b x a)
theorem Bk (c:List Table) (d:0<av.length):(i4 c av).1<=av.length/\0<(i4 c av).1:=by
 refine Bj (dB:=λb:Nat×Int=>b.1<=av.length/\0<b.1) (λb T a=>Bj (dB:=λb:Nat×Int=>b.1<=av.length/\0<b.1) (λb r a=>?_) _ b a) _ _ ⟨d,j9⟩
 unfold yK
 split
 .rename_i h
  have:=congrArg fi h
  rw [fR,ey] at this
  refine ⟨?_,?_⟩
  .show 1+r.1.length<=av.length
   exact n1 (eY 1 _) (zz d (n1 this.symm (qg _ _)))
  .show 0<1+r.1.length
   exact Nat.pos_of_neZero (1+fi r.fst)
 .exact a
theorem RU (f:Ev i e b g (.ref a)) (k:b a=some (.list j)):Al i e b (.rev g) (gN b j.reverse):=λQ h=>f _ (.mk k λc d=>h _ _ (mU d.1) (ei c rfl ((fM d).own (ec _))))
theorem PX (n:Al i e b g λv l=>∃a,v= .ref a/\l a=some (.list j)):Al i e b (.rev g) (gN b j.reverse):=λQ h=>n _ λv o f m=>by
 refine jj v m λa k=>?_
 exact .mk k λc d=>h _ _ (b4 f (mU d.1)) (ei c rfl ((fM d).own f))
theorem Nw (m:Ev i e b g (.ref a)) (k:b a=some (.list (av.map .int))) (j:Ev i e b D (.int d)) (l:Ev i e b aL (.int o)):Al i e b (.tZ g D aL) (gN b (((av.drop d).take (o -d)).map .int)):=λQ h=>m _ (j _ (l _ (.list k IX λc f=>h _ _ (mU f.1) (ei c rfl (by rw [<-qh,<-oT,B9];exact (fM f).own (ec _))))))
theorem RW (r:Al i e b g (gN b (av.map .int))) (p:∀a,eD b a->Al i e a D (gN a (bS.map .int))) (o:∀a,eD b a->n (.bool (decide (av=bS))) a):Al i e b (.cmp g .eq D) n:=
 AW r λv l k f=>by
  refine jj v f λc q=>?_
  refine qp (p l k) λv t j f=>?_
  refine jj v f λd s=>?_
  exact λQ m=>.eq (.list (j _ _ q.at_) s.at_ (wm av) (wm bS) _ (decide_eq_true_iff.trans ⟨λh=>by rw [h],IU⟩)) (m _ (o _ (b4 k j)))
theorem Ny (f:Ev (eE PG (a+1)) e b g (tI av)):Al (eE PG (a+1)) e b (.call (.cst (.bi 10)) (.cons g .nil)) (gN b (av.map .int)):=
 gw dt (iJ f) λQ h=>F9 λc i d=>h _ _ d.le (ei c rfl (d.own (ec _)))
theorem CV (h:kj b a aK) (k:Ev i e b g (.ref a)) (n:Ev i e b D (.int p)):Al i e b (.fL g 1 (.cons D (.cons (.lst .nil) .nil))) λv u=>∃q,v= .ref q/\u q=some (.list ((((strip aK).lookup p).getD []).map ie)):=λQ m=>by
 refine DQ k h.dict (.inl rfl) (n _ λc r=>?_)
 have d:=fM (ay:=.list []) r
 refine ei _ (d.le _ _ h.dict) (.G9 (xH _) ?_)
 clear k n r;by_cases j:p∈aK.map (·.1)
 .refine Qn p (D0 j) λf s w=>?_
  refine .inl (ei _ (ck.mpr ⟨f,s,rfl⟩) (m _ _ d.le ⟨_,rfl,?_⟩))
  rw [w];exact d.le _ _ (h.ls f s)
 .refine .inr ⟨by rw [uR,qI];exact j,m _ _ d.le (ei _ rfl ?_)⟩
  have:(strip aK).lookup p=none:=by
   induction t:(strip aK).lookup p with
   |none=>rfl
   |some l=>
    refine i5 (gS.mp t) λx y f _=>?_
    exact absurd (by rw [<-rh,f];simp) j
  rw [this];exact d.at_
theorem xO {A:List (Nat×Ent)} (ht:b d=some (.list (A.map λp=>.ref p.1))) (hE:∀p∈A,kj b p.1 p.2) (x:b o=some (.list (a8.map .int))) (hl:a8.length<=10000):
 Cl (eE PG (a+4)) (.fn 75) [.ref d,.ref o] b (gN b ((iF (i4 (A.map λp=>strip p.2)) a8.length a8).map .int)):=by
 refine jO [some (.ref d),some (.ref o),none,none,none,none,none,none,none] (c_ _ _) rfl rfl λlu U R hR=>?_
 (injection U with U;subst U)
 generalize kH:A.map (λp=>strip p.2)=z at*
 refine sG gP λc s1 n1=>g8 dt (oM a8.length (λN f w=>∃(p:Nat) (E:List Int) (w4 w5 B l r:Option AV),f=[some (.ref d),some (.ref o),some (.ref c),some (.int p),w4,w5,B,l,r]/\eD b w/\i0 b w c (.list (E.map .int))/\p<=a8.length/\N=a8.length -p/\E.length<=p/\
  E++iF (i4 z) (a8.length -p) (a8.drop p)=iF (i4 z) a8.length a8)
  ⟨0,[],_,_,_,_,_,rfl,n1.le,(n1.own (ec _)),(ft _),rfl,(eJ _),rfl⟩ ?_)
 intro N f w kW K hK;refine Jz kW λp E w4 w5 B l r kU=>Ad kU λkK kl H L kM V T=>?_;subst kK;subst kM
 have ky:∀{f:MM} {b:AS},f[1]? =some (some (.ref o))->b o=some (.list (a8.map .int))->Ev (eE PG (a+3)) f b (.call (.cst (.bi 0)) (.cons (.var 1) .nil)) (.int a8.length):=λZ x=>by
  have:=jd (a:=a+2) (a5 Z) (f7 x)
  rwa [bb] at this
 refine ei _ (pv (f9 (fU (a5 rfl) (ky rfl (kl _ _ x)) (n0 rfl)))) (λlx J=>⟨λM=>?_,λM=>?_⟩)
 .have I:p<a8.length:=h9.mp (of_decide_eq_true M)
  have S:=b4 kl J
  have kz:(a8.map AV.int)[p]? =some (.int a8[p]):=by rw [ed,df I];rfl
  have kQ:a8.drop p=a8[p]::a8.drop (p+1):=fP I
  have kB:0<(a8.drop p).length:=by rw [ey];exact iX I
  have kF:(a8.drop p).headD 0=a8[p]:=by rw [kQ];rfl
  have kV:(a8.drop p).drop 1=a8.drop (p+1):=by rw [ig]
  refine q_ (g5 (iL (ia (a5 rfl) dt rfl) (fq (a5 rfl) (S _ _ x) (a5 rfl) kz))) rfl (by decide) (rd (RU (a5 rfl) (S _ _ ht)) λv kT l3 Y=>?_)
  refine jj v Y λct kn=>?_
  have kG:=b4 S l3
  rw [<-p9] at kn
  refine iG (.list ct _) A.reverse (λp=>.ref p.1) (λQ=>gH kn.at_) (λD f w=>eD kT w/\∃(g:Nat×Int) (B l r:Option AV),f=[some (.ref d),some (.ref o),some (.ref c),some (.int p),some (.int (p+g.1:Nat)),some (.int g.2),B,l,r]/\g=(D.map λp=>strip p.2).foldl (wA (a8.drop p)) (1,a8[p]))
   (wV (ec _) (1,a8[p]) _ _ _ rfl rfl) (λ_ _ _ h=>h.1 _ _ kn.at_) ?_ ?_
  .intro D y r' f lq hD kJ K2 kX;refine sy f kJ λC g B l r hb=>?_
   have hy:y∈A:=List.mem_reverse.mp (mid hD)
   have O:=b4 kG C
   have lj:=(hE y hy).le O
   refine ei _ rfl (rd (PX (CV lj (a5 rfl) (fq (a5 rfl) (O _ _ x) (a5 rfl) kz))) λv kD l5 Y=>?_)
   refine jj v Y λcr km=>?_
   rw [<-p9] at km
   refine iG (.list cr _) _ ie (λQ=>gH km.at_) (λD2 f w=>eD kD w/\∃(j:Nat×Int) (l r:Option AV),f=[some (.ref d),some (.ref o),some (.ref c),some (.int p),some (.int (p+j.1:Nat)),some (.int j.2),some (.ref y.1),l,r]/\j=D2.foldl (yK (a8.drop (p+1))) g)
    (Dh (ec _) g _ _ rfl rfl) (λ_ _ _ h=>h.1 _ _ km.at_) ?_ ?_
   .intro D2 q r2 f lh ly kO K3 ku;refine Ih f kO λF j l r G=>?_
    have kZ:=b4 O (b4 l5 F)
    have W:∀f:MM,f[3]? =some (some (.int p))->∀b,Ev (eE PG (a+3)) f b (.bin .add (.var 3) (.cst (.int 1))) (.int (p+1:Nat)):=λf Z b=>ia (a5 Z) dt rfl
    refine ei [some (.ref d),some (.ref o),some (.ref c),some (.int p),some (.int (p+j.1:Nat)),some (.int j.2),some (.ref y.1),some (tI q.1),some (.int q.2)] rfl (pF (aw:=decide ((a8.drop (p+1)).take q.1.length=q.1)) (wq (RW (av:=(a8.drop (p+1)).take q.1.length) ?_ (λkP _=>Ny (a:=a+2) (a5 rfl)) λ_ _=>rfl)) λkP l7=>⟨λP=>?_,λP=>?_⟩)
    .have:=Nw (i:=eE PG (a+3)) (e:=[some (.ref d),some (.ref o),some (.ref c),some (.int p),some (.int (p+j.1:Nat)),some (.int j.2),some (.ref y.1),some (tI q.1),some (.int q.2)]) (g:=.var 1) (a5 rfl) (kZ _ _ x) (W _ rfl _) (ia (bM:=.add) (bZ:=((p+1+q.1.length:Nat):Int)) (W _ rfl _) (pw (a:=a+2) (a5 (a:=7) rfl)) rfl)
     rwa [ib] at this
    .refine q_ (j:=[.int (p+(1+q.1.length):Nat),.int q.2]) (λQ hQ=>g5 (iL (ia (W _ rfl _) (pw (a:=a+2) (a5 rfl)) rfl) (a5 rfl)) _ (by rw [<-fI] at hQ;exact hQ)) rfl (by decide) (ku _ _ (Dh (b4 F l7) (1+q.1.length,q.2) _ _ rfl ?_))
     rw [iS,<-G]
     exact (if_pos (of_decide_eq_true P)).symm
    .refine ku _ _ (Dh (b4 F l7) j _ _ rfl ?_)
     rw [iS,<-G]
     exact (if_neg (of_decide_eq_false P)).symm
   .intro f lh kI;refine Ih f kI λF j l r G=>?_
    refine kX _ _ (wV (b4 C (b4 l5 F)) j _ _ _ rfl ?_)
    rw [b_,iS,<-hb,G]
    show _=wA (a8.drop p) g (strip y.2)
    unfold wA
    rw [kF,kV]
  .intro f lq kN;refine sy f kN λC g B l r hb=>?_
   have kC:g=i4 z (a8.drop p):=by
    rw [hb,<-kH]
    unfold i4
    rw [kF,p9]
   have kq:=Bk z kB
   rw [<-kC,ey] at kq
   have lg:p+g.1<=a8.length:=by have:=d5 kq.1 p;rwa [ru L] at this
   have kx:p<p+g.1:=gj kq.2
   have o4:=(H.le J).le (b4 l3 C)
   refine qD (a5 rfl) o4.at_ (by rw [bb];exact c4 (a_ V (a_ L hl)) (by unfold fE;decide)) (a5 rfl) λkD u5=>g8 (a5 rfl) (hK _ _ _ (i3 I kx) ⟨(p+g.1),(E++[g.2]),_,_,_,_,_,rfl,(u5.le (b4 kG C) H.fr),?_,lg,rfl,?_,?_⟩)
   .rw [b_];exact u5.own H.fr
   .rw [bh];exact a_ (fg V) kx
   .have e1:=sN _ (λlr hs=>(Bk z (av:=lr) hs).2) kB
    rw [ey,<-kC,ig,ey] at e1
    rw [eC,<-T,e1];rfl
 .have kY:p=a8.length:=ir L (gR.mp (nq.mp (of_decide_eq_false M)))
  clear ht hE x hl kH n1 L hK V ky M;subst kY
  rw [jB,show iF (i4 z) 0 (a8.drop a8.length)=[] from rfl,eR] at T
  subst T
  exact iM (a5 rfl) (hR _ _ _ (b4 kl J) (ei c rfl (H.le J)))
section
noncomputable def vS (R:List Row):AV:=.tup (R.map ie)
noncomputable def Bl (c:List (List Row)):AV:=.tup (c.map vS)
theorem Nz (p q:Row) (h:ie p=ie q):p=q:=by
 have a:=AV.tup.inj h
 exact Qf (Hw (fo a).1) (AV.int.inj (fo (fo a).2).1)
theorem CW (R S:List Row) (h:vS R=vS S):R=S:=xM Nz (AV.tup.inj h)
theorem Kn (c d:List (List Row)) (h:Bl c=Bl d):c=d:=xM CW (AV.tup.inj h)
theorem CX (n:Nat) (r:Row):jk (n+2) (ie r):=.tup _ _ λx a=>by
 cases a with
 |head=>exact yt n _
 |tail _ a=>
  cases a with
  |head=>exact .int _ _
  |tail _ a=>exact (ee a).elim
theorem tG (n:Nat) (R:List Row):jk (n+3) (vS R):=.tup _ _ λx a=>by
 refine iQ x (ck.mp a) λr _=>?_;exact CX n r
theorem Bm (c:List (List Row)):Plain (Bl c):=.tup _ _ λx a=>by
 refine iQ x (ck.mp a) λr _=>?_;exact tG 2 r
noncomputable def z3 {α:Type} [DecidableEq α] (l:List α):List α:=l.foldl (λd x=>if x∈d then d else d++[x]) []
noncomputable def vT (W:List Row):List g9:=[]::W.flatMap λr=>(eQ r.1.length).map λk=>r.1.take (k+1)
noncomputable def rests (W:List Row):List (List Row):=z3 ((vT W).map (gG W))
noncomputable def uU (R:List (List Row)) (g:Int):List (List Row):=R.map λr=>after r g
noncomputable def NA (R:List (List Row)):List (List (List Row)):=z3 ((R.map λ_=>[])::[1,2,3,4,5].map (uU R))
section
variable {α:Type} [DecidableEq α]
theorem pz (l:List α) (x:α):z3 (l++[x])=if x∈z3 l then z3 l else z3 l++[x]:=by unfold z3;rw [iS];rfl
theorem Ec (l:List α):(z3 l).length<=l.length:=by
 induction l using snoc_ind with
 |h0=>exact eJ _
 |h1 l x ih=>
  rw [pz,bh]
  split
  .exact fY ih
  .rw [bh];exact fg ih
end
noncomputable def Gives (st:AS) (v:AV) (xs:List AV):Prop:=∀st1,eD st st1->∃it:It,(∀st2,eD st1 st2->it.ok st2)/\∀Q:It->List AV->Prop,Q it xs->oh st1 Q v
theorem HS (h:b a=some (.list j)):Gives b (.ref a) j:=λf c=>ei (.list a j) (λe d=>d _ _ (c _ _ h)) (λQ=>gH (c _ _ h))
theorem Ko:Gives b (.tup j) j:=λc a=>ei .tup (λ_ _=>trivial) (λQ h=>.tup h)
theorem Bn (h:Gives b l (a7.map ie)) (q:a7.length<=fE) (o:∀f,eD b f->n (vS (gG a7 av)) f):Cl (eE PG (a+3)) (.fn 78) [l,tI av] b n:=by
 refine jO [some l,some (tI av)] (c_ _ _) rfl rfl λk c t m=>?_
 (injection c with c;subst c)
 refine sh (pZ (a:=a+1) (qp (tx (λr:Row=>jy r.1 av) (λr=>ie (r.1.drop av.length,r.2)) a7 ie q (n:=λw _=>w=l) (jG (a5 rfl) rfl) (λw d i e=>e▸h d i) λr x d v=>
  (gq [none,some (tI r.1),some (.int r.2),some (tI av)] rfl (tw (pv (f9 (AY (rf (a5 rfl) (pw (a:=a+1) (a5 rfl))) (a5 rfl))))) (λ_ u _=>jG (g5 (iL (AX (a5 rfl) (pw (a:=a+1) (a5 rfl))) (a5 rfl))) rfl))) λw s _ p=>?_) (n:=n) o) λw s g j=>m _ _ _ g j
 rw [show (gG a7 av).map ie=_ from er ..];exact p
theorem Ed (n:Ev i e b g l) (c:Ev i e b D (.ref a)) (h:b a=some (.list j)) (m:Plain l) (d:∀x∈j,Plain x) (k:aw=true↔l∈j):Tv i e b (.cmp g .Cf D) (!aw):=
 f9 (fU n c λQ f=>.Cf (.list m h d _ k) f)
theorem NB (h:VG PG i (VE PG i g) bD e j b bL):Oi PG i .nil e b λt b=>if t then VG PG i (VE PG i g) bD e j b bL else bL j b:=h
theorem NC {W:MM->AS->(AV->AS->Prop)->Prop} (h:Nat->AV) (k:Ev i e b g (.pT 0 a 1)) (o:j.length+a<=fE) (m:∀l,l<a->∃f,jN C (.int (l:Nat)) (Oh C e)=some f/\∀Q:AV->AS->Prop,Q (h l) b->W f b Q) (n:bL (j++(eQ a).map h) b):VG PG i W (.cons C g .nil .nil) e j b bL:=by
 refine ⟨rfl,k _ (p3 ?_)⟩
 rw [B8]
 refine vj (λ(d:List Nat) (c:List AV) s=>s=b/\c=j++d.map h) ⟨rfl,(eR _).symm⟩ ?_ ?_
 .clear k n;intro d y z c s w r x q;refine KV s c r ?_
  obtain ⟨rfl,p⟩:=rn w
  refine eS (m _ p) λf v u=>?_
  refine tP trivial f v (u _ ⟨?_,q _ _ ⟨rfl,by rw [b_,eC];rfl⟩⟩)
  rw [bh,bb]
  exact eh (rv p _) o
 .clear k o m;intro c s t;refine KV s c t ?_
  exact ⟨trivial,n⟩
theorem CY (W:List Row):(vT W).length<=1+sz W:=by
 unfold vT
 rw [e_,eY]
 refine d5 ?_ 1
 induction W with
 |nil=>exact eJ _
 |cons r W a=>
  rw [iT,bh,bb,fc]
  have:sz (r::W)=wt r+sz W:=rfl
  rw [this]
  refine fO ?_ a
  unfold wt;exact fY (ni _ (by decide))
end
section
section
variable {α:Type} [DecidableEq α]
theorem xP {l:List α} {x:α}:x∈z3 l↔x∈l:=by
 induction l using snoc_ind with
 |h0=>exact Iff.rfl
 |h1 l y ih=>
  rw [pz,eF,dk,<-ih]
  by_cases h:y∈z3 l
  .rw [if_pos h];exact ⟨.inl,λq=>q.elim id λq=>q▸h⟩
  .rw [if_neg h,eF,dk]
theorem ND (l:List α):(z3 l).Nodup:=by
 induction l using snoc_ind with
 |h0=>exact eI
 |h1 l y ih=>
  rw [pz]
  by_cases h:y∈z3 l
  .rw [if_pos h];exact ih
  .rw [if_neg h]
   exact eP.mpr ⟨ih,eT.mpr ⟨ee,eI⟩,λa ha b hb q=>h (by rw [<-dk.mp hb,<-q];exact ha)⟩
end
theorem zo (c:∀a b,dE a=dE b->a=b):dE dp∈dq.map dE↔dp∈dq:=by
 rw [ck]
 exact ⟨λg=>eS g λy f e=>c _ _ e▸f,λd=>(ei dp d rfl)⟩
theorem HT (J:b d=some (.list (a7.map ie))) (U:a7.length<=5) (Y:sz a7<1000) (hP:∀kq,eD b kq->n (.tup [.int (rests a7).length,.int (NA (rests a7)).length]) kq):Cl (eE PG (a+5)) (.fn 79) [.ref d] b n:=by
 have kJ:∀r∈a7,r.1.length<=sz a7:=λr hr=>a_ (by unfold wt;exact fY (ni _ (by decide)):r.1.length<=wt r) (A5 (fC hr))
 have M:(vT a7).length<fE:=c4 (CY a7) (gF (rv Y 1) (by unfold fE;decide))
 refine jO [some (.ref d),none,none,none,none,none,none,none] (c_ _ _) rfl rfl λC hk R B=>?_
 (injection hk with hk;subst hk)
 refine je (yH (si (iJ (l:=tI []) (g5 gP)) λc0 s1 n1=>DV (a5 rfl) (tv (.list d _) a7 ie (λQ=>gH (n1.le _ _ J)) (λG L s=>eD s1 s/\L=(G.flatMap λr=>(eQ r.1.length).map λC=>r.1.take (C+1)).map tI) ⟨ec _,rfl⟩ (λG L s h=>h.1 _ _ (n1.le _ _ J)) ?_ ?_)))
 .clear J U hP M B n1;intro G r r' L s hd kK K q;refine Va L kK λhl=>?_
  have hr:=kJ r (mid hd)
  have kx:r.1.length<=1000:=a_ hr (eA Y)
  refine ei [none,some (tI r.1),some (.int r.2),none] rfl (NB (NC (λC=>tI (r.1.take (C+1))) (λQ F=>jJ (pw (a:=a+3) (a5 rfl) _ (tB (a:=a+3) (a_ kx (by decide)) F))) ?_ (λi kO=>⟨[none,some (tI r.1),some (.int r.2),some (.int i)],rfl,λQ F=>rf (a:=i+1) (a5 rfl) (ia (a5 rfl) dt rfl) _ F⟩) (q _ _ ⟨hl,?_⟩)))
  .rw [bb]
   have h1:=CY G
   have h2:sz G<=sz a7:=by rw [hd,RP];exact eg _ _
   unfold vT at h1
   rw [e_] at h1
   exact eA (Xg h1 h2 Y kx)
  .rw [kA,b_,iT,zO,eR,er];rfl
 intro _ s2 s3 c1 kF Z;obtain ⟨ku,rfl⟩:=kF
 have e0:=Z.le _ _ (ku _ _ n1.at_)
 refine add_lists e0 Z.at_ ?_ λV N I=>?_
 .have:=M
  unfold vT at this
  rw [e_] at this
  rw [bb,i9,eY]
  exact eA this
 have kz:[tI []]++(a7.flatMap λr=>(eQ r.1.length).map λC=>r.1.take (C+1)).map tI=(vT a7).map tI:=rfl
 rw [kz] at I
 have X:eD b N:=b4 n1.le (b4 ku (b4 Z.le I.le))
 refine sG gP λc2 s5 T=>oR (a5 rfl) (iG (.list V _) (vT a7) tI (λQ=>gH (T.le _ _ I.at_)) (λD m s=>eD N s/\i0 N s c2 (.list ((z3 (D.map (gG a7))).map vS))/\∃p w,m=[some (.ref d),some (.ref V),some (.ref c2),p,w,none,none,none]) (qU T.le (T.own (ec _)) _ _ rfl) (λD m s h=>h.1 _ _ I.at_) ?_ ?_)
 .intro D A r' m s6 hD kI K q;refine rZ m kI λH c p w=>?_
  have km:(z3 (D.map (gG a7))).length<fE:=c4 (Ec _) (by rw [bb];exact c4 (by rw [hD,bh];exact eg _ _) M)
  refine ei _ rfl (yz (gw dt (iL (a5 rfl) (a5 rfl)) (Bn (a:=a+1) (n:=λj _=>j=vS (gG a7 A)) (HS (H _ _ (X _ _ J))) (eA (rD U)) λ_ _=>rfl)) λj E l t=>?_)
  subst t
  have c:=c.le l
  refine ki (Ed (aw:=decide (gG a7 A∈z3 (D.map (gG a7)))) (a5 rfl) (a5 rfl) c.at_ (tG 3 _) (λx S=>by refine iQ x (ck.mp S) λy _=>?_;exact tG 3 _) (decide_eq_true_iff.trans (zo CW).symm)) (λe=>?_) λe=>?_
  .rw [fK,decide_eq_false_iff_not] at e
   refine qD (a5 rfl) c.at_ (by rw [bb];exact km) (a5 rfl) λs8 u8=>q _ _ (qU (u8.le (b4 H l) c.fr) ?_ _ _ rfl)
   rw [b_,show [A].map (gG a7)=[gG a7 A] from rfl,pz,if_neg e,b_]
   exact u8.own c.fr
  .rw [jM,decide_eq_true_iff] at e
   refine q _ _ (qU (b4 H l) ?_ _ _ rfl)
   rw [b_,show [A].map (gG a7)=[gG a7 A] from rfl,pz,if_pos e]
   exact c
 .intro m s6 kC;refine rZ m kC λH c p w=>?_
  have c:i0 N s6 c2 (.list ((rests a7).map vS)):=c
  have kn:(rests a7).length<fE:=c4 (Ec _) (by rw [bb];exact M)
  have kN:∀R∈rests a7,R.length<=fE:=λR B=>by
   refine iQ R (ck.mp (xP.mp B)) λA _=>?_
   unfold gG
   rw [bb]
   exact a_ (GZ _ _) (eA (rD U))
  refine je (Jg (pZ (a:=a+3) (n:=λj _=>j=Bl ((rests a7).map λ_=>[])) (qp (tA (λ_:List Row=>.tup []) (eA kn) (a5 rfl) c.at_ λR _ E _=>(ei _ rfl (jG (g5 gP) rfl))) λj s _ t=>by rw [er];exact t) (λ_ _=>rfl) _ ?_))
  intro _ E l kH c5 kD;subst kH
  have n7:=fM (ay:=.list [Bl ((rests a7).map λ_=>[])]) kD
  have kP:=n7.ne (l _ _ c.at_)
  generalize va E c5 _=s8 at*
  have l8:=b4 H l
  refine A4 (g6 dt (iL dt dt) (jI (a:=a+3) (ei [1,6] rfl (.two ⟨by decide,by decide,?_⟩))))
  refine iG .pT [1,2,3,4,5] AV.int (λQ F=>tu (a:=1) (d:=6) F) (λD m s=>eD E s/\i0 E s c5 (.list ((z3 (((rests a7).map λ_=>[])::D.map (uU (rests a7)))).map Bl))/\∃p w w6 W,m=[some (.ref d),some (.ref V),some (.ref c2),p,w,some (.ref c5),w6,W])
   (uw n7.le (n7.own (ec _)) _ _ _ _ rfl) (λ_ _ _ _=>trivial) ?_ ?_
  .intro D g r' m s9 hD kG K q;refine wY m kG λz f p w w6 W=>?_
   have kl:=(c.le l).le z
   have km:(z3 (((rests a7).map λ_=>[])::D.map (uU (rests a7)))).length<fE:=by
    refine c4 (Ec _) ?_
    rw [e_,bb]
    have:=congrArg fi hD
    rw [bh] at this
    have h6:D.length<=5:=a_ (eg _ _) (gu this.symm)
    exact c4 (fg h6) (by unfold fE;decide)
   refine ei _ rfl (yz (pZ (a:=a+3) (n:=λj _=>j=Bl (uU (rests a7) g)) (qp (tA (λR=>vS (after R g)) (eA kn) (a5 rfl) kl.at_ λR B kM O=>⟨[none,some (vS R),some (.int g)],rfl,gw dt (iL (a5 rfl) (g5 (iJ (a5 rfl)))) (Bn (a:=a+1) (av:=[g]) Ko (kN R B) λ_ _=>rfl)⟩) λj s _ t=>by unfold uU;rw [er];exact t) λ_ _=>rfl) λj kM O t=>?_)
   subst t
   have f:=f.le O
   refine ki (Ed (aw:=decide (uU (rests a7) g∈z3 (((rests a7).map λ_=>[])::D.map (uU (rests a7))))) (a5 rfl) (a5 rfl) f.at_ (Bm _) (λx S=>by refine iQ x (ck.mp S) λy _=>?_;exact Bm _) (decide_eq_true_iff.trans (zo Kn).symm)) (λe=>?_) λe=>?_
   .rw [fK,decide_eq_false_iff_not] at e
    refine qD (a5 rfl) f.at_ (by rw [bb];exact km) (a5 rfl) λkQ ky=>q _ _ (uw (ky.le (b4 z O) f.fr) ?_ _ _ _ _ rfl)
    rw [b_,<-iI,show [g].map (uU (rests a7))=[uU (rests a7) g] from rfl,pz,if_neg e,b_]
    exact ky.own f.fr
   .rw [jM,decide_eq_true_iff] at e
    refine q _ _ (uw (b4 z O) ?_ _ _ _ _ rfl)
    rw [b_,<-iI,show [g].map (uU (rests a7))=[uU (rests a7) g] from rfl,pz,if_pos e]
    exact f
  .intro m s9 kB;refine wY m kB λz f p w w6 W=>?_
   have kl:=(c.le l).le z
   refine iM (g5 (iL (jd (a:=a+3) (a5 rfl) (f7 kl.at_)) (jd (a:=a+3) (a5 rfl) (f7 f.at_)))) (B _ _ _ (b4 X (b4 l8 z)) ?_)
   rw [bb,bb]
   exact hP _ (b4 X (b4 l8 z))
end
theorem Ga {α:Type} {l d r:List α} {y:α} (h:l=d++y::r):l.drop (d++[y]).length=r:=by
 rw [h,show d++y::r=(d++[y])++r by rw [eC];rfl,iU]
theorem NF (a b:Nat):max (a:Int) b=((max a b:Nat):Int):=by
 rcases uj a b with h |h
 .rw [Ab h,qj (gR.mpr h)]
 .rw [BL h,Qk (gR.mpr h)]
theorem NG {m:MM} {st:AS} {n:Nat} {a b:CE} {i j:Nat} (ha:Ev (eE PG (n+1)) m st a (.int i)) (hb:Ev (eE PG (n+1)) m st b (.int j)):Ev (eE PG (n+1)) m st (.call (.cst (.bi 3)) (.cons a (.cons b .nil))) (.int (max i j:Nat)):=
 xx dt (iL ha hb) λQ hQ=>jI (.mk (.mk (.mk (show Q (.int (max (i:Int) j)) st by rw [NF];exact hQ))))
theorem B1 (M:b d=some (.list (C.map .ref))) (V:ke b C aP) (S:b o=some (.list (bT.map sk))) (hS:∀s∈aP,sortI (s.map (·.1))=s.map (·.1)/\(s.map (·.1)).Nodup/\s.length<=5) (hO:pP 1 0 aP=some aP.length) (hN:rR 0 bT=some I) (hc:aP.length<=1000) (hP:∀E,eD b E->n (.bool true) E):Cl (eE PG (a+4)) (.fn 80) [.ref d,.ref o] b n:=by
 have N:=V.length
 refine jO [some (.ref d),some (.ref o),none,none,none,none,none] (c_ _ _) rfl rfl λf Y R hR=>?_
 (injection Y with Y;subst Y)
 refine g8 (l:=.int (1:Nat)) dt (A4 (jJ (jd (a:=a+2) (a5 rfl) (f7 M) _ (tB (a:=a+2) (d:=(C.map AV.ref).length) (by rw [bb,N];exact a_ hc (by decide)) ?_))))
 rw [bb,N]
 refine iG .pT (eQ aP.length) (λf=>.int (f:Nat)) (λQ=>p3) (λi m s=>eD b s/\∃(f:Nat) (x l w q:Option AV),m=[some (.ref d),some (.ref o),some (.int f),x,l,w,q]/\pP f i.length (aP.drop i.length)=some aP.length) ⟨(ec _),1,_,_,_,_,rfl,hO⟩ (λ_ _ _ _=>trivial) ?_ ?_
 .intro i y r' m s1 F ku K Z;refine Ce m ku λr f x l w q e=>?_
  refine Qm y (rn F) λL=>?_
  have hs:=df L
  refine eS (V.get hs) λdd kB T=>?_
  refine mV (hS _ (fN L)) λh1 h2 h3=>?_
  rw [fP L] at e
  generalize aP[i.length]=s at*
  refine eS (jh.mp e) λO kn e=>?_
  have P:∀{X:Ak} {m:MM} {E:AS},eD b E->m[0]? =some (some (.ref d))->m[3]? =some (some (.int i.length))->Ev X m E (.sub (.var 0) (.var 3)) (.ref dd):=λkD hm kJ=>fq (a5 hm) (kD _ _ M) (a5 kJ) (by rw [ed,kB];rfl)
  have kx:(dV s).map (·.1)=(s.map (·.1)).map AV.int:=by unfold dV;rw [er,er];rfl
  refine ei _ rfl (rd (gw dt (iJ (P r rfl rfl)) (sJ (a:=a+2) (λQ hQ=>q8 (r _ _ T) (nO _) Q (by rw [kx];exact hQ)) (by rw [bb];exact h3))) λkG s2 B hv=>?_)
  refine jj kG hv λc J=>?_
  rw [h1,er] at J
  refine iG (.list c _) s (AV.int∘λp:Int×Nat=>p.1) (λQ=>gH J.at_) (λD m s'=>eD s2 s'/\∃(f:Nat) (l w q:Option AV),m=[some (.ref d),some (.ref o),some (.int f),some (.int i.length),l,w,q]/\nQ i.length f ((s.drop D.length).map (·.2))=some O) (wV (ec _) f _ _ _ rfl kn) (λ_ _ _ h=>h.1 _ _ J.at_) ?_ ?_
  .intro D p A m s3 kl kF K2 kM;refine sy m kF λH u l w q j=>?_
   have ky:=b4 r (b4 B H)
   have W:s.drop D.length=p::A:=by rw [kl,iU]
   have km:s.drop (D++[p]).length=A:=Ga kl
   rw [W] at j
   have j:(if u<=i.length\/u<p.2 then none else nQ i.length (max u (p.2+1)) (A.map (·.2)))=some O:=j
   by_cases z:u<=i.length\/u<p.2
   .rw [if_pos z] at j;contradiction
   rw [if_neg z] at j
   refine iK (not_or.mp z) λg1 g2=>?_
   have kz:∀{X:Ak} {m:MM},m[0]? =some (some (.ref d))->m[3]? =some (some (.int i.length))->m[4]? =some (some (.int p.1))->Ev X m s3 (.sub (.sub (.var 0) (.var 3)) (.var 4)) (.int p.2):=λkK kN c=>sd (P ky kK kN) (ky _ _ T) (a5 c) (.inl ⟨(oJ _ rfl),nO _⟩) (rM (vq h2 (mid kl)))
   refine ei _ rfl (ki (MS (f9 (fU (a5 rfl) (a5 rfl) (D5 rfl))) λ_=>f9 (fU (kz rfl rfl rfl) (a5 rfl) (xK rfl))) (λG=>?_) λ_=>s_end (g8 (NG (n:=a+2) (a5 rfl) (ia (bZ:=((p.2+1:Nat):Int)) (kz rfl rfl rfl) dt rfl)) (kM _ _ ⟨H,max u (p.2+1),_,_,_,rfl,by rw [km];exact j⟩)))
   exfalso
   rw [j1,decide_eq_true_iff,decide_eq_true_iff] at G
   exact G.elim (λh=>g1 (gR.mp h)) λh=>g2 (h9.mp h)
  .intro m s3 kq;refine sy m kq λH u l w q j=>?_
   rw [ot] at j
   have j:some u=some O:=j
   clear M V S hS hO hN hc hP N hR F ku L kB hs T h1 h2 h3 kn P kx hv J kq;obtain rfl:=d3 j
   exact Z _ _ ⟨(b4 r (b4 B H)),_,_,_,_,_,rfl,(by rw [bh];exact e)⟩
 .intro m s1 kC;refine Ce m kC λr f x l w q e=>?_
  rw [fc,ot] at e
  have e:some f=some aP.length:=e
  obtain rfl:=d3 e
  refine g8 (l:=.int (0:Nat)) dt (oR (a5 rfl) (iG (.list o _) bT sk (λQ=>gH (r _ _ S)) (λD m s=>eD s1 s/\∃(g:Nat) (x l q:Option AV),m=[some (.ref d),some (.ref o),some (.int aP.length),x,l,some (.int g),q]/\rR g (bT.drop D.length)=some I) (wV (ec _) 0 _ _ _ rfl hN) (λ_ _ _ h=>h.1 _ _ (r _ _ S)) ?_ ?_))
  .intro D t A m s2 F kI K Z;refine sy m kI λB g x l q e=>?_
   have W:bT.drop D.length=t::A:=by rw [F,iU]
   have km:bT.drop (D++[t]).length=A:=Ga F
   rw [W] at e
   have e:(if t>g+1 then none else rR (max g t) A)=some I:=e
   by_cases z:t>g+1
   .rw [if_pos z] at e;contradiction
   rw [if_neg z] at e
   refine ei _ rfl (ki (f9 (fU (a5 rfl) (ia (bZ:=((g+1:Nat):Int)) (a5 rfl) dt rfl) (xK rfl))) (λG=>absurd (h9.mp (of_decide_eq_true G)) z) λ_=>s_end (g8 (NG (n:=a+2) (a5 rfl) (a5 rfl)) (Z _ _ ⟨B,max g t,_,_,_,rfl,by rw [km];exact e⟩)))
  .intro m s2 kH;refine sy m kH λB g x l q e=>?_
   have U:=b4 r B
   refine iM (l:=.bool true) (fU (a5 rfl) (jd (a:=a+2) (a5 rfl) (f7 (U _ _ M))) (eq_int ?_)) (hR _ _ _ U (hP _ U))
   rw [bb,N];exact (decide_eq_true rfl).symm
structure Inf where
 g:Int
 cl:Int
 un:Bool
 id:Int
 part:Int
 cnt:Int
noncomputable def VO (I:Inf):List (Nat×AV):=[(34,.int 0),(29,.int I.g),(35,.int I.cl),(36,.int 1),(31,.bool I.un),(24,.int I.id),(25,.int I.part),(26,.int I.cnt),(30,.int 0),(37,.str []),(38,.int 0),(39,.int 0),(40,.int 0),(41,.int 0),(42,.int 0),(43,.str [])]
inductive pG (st:AS) (r:Nat) (I:Inf):Prop where
 |mk (dx:Nat) (h0:st r=some (.inst 1 dx (VO I))):pG st r I
noncomputable def yL (st:AS) (rs:List Nat) (is:List Inf):Prop:=rs.length=is.length/\∀(i:Nat) r,rs[i]? =some r->∃I,is[i]? =some I/\pG st r I
structure Buf (s0 st:AS) (b bx row:Nat) (ll:Int) (rs:List Nat) (is:List Inf):Prop where
 le:eD s0 st
 obj:st b=some (.inst 2 bx [(28,.ref row),(44,.bool false),(45,.int ll),(46,.int 0)])
 lst:st row=some (.list (rs.map .ref))
 inf:yL st rs is
 nd:rs.Nodup
 fb:s0 b=none
 fw:s0 row=none
 fr:∀r∈rs,s0 r=none
 len:is.length<=10000
inductive Bo (st:AS) (gd:Nat):Prop where
 |mk (dx cd:Nat) (a b c d:AV) (h0:st gd=some (.inst 9 dx [(33,.ref cd),(59,a),(54,b),(60,c),(61,d)])) (h1:zj st cd []):Bo st gd
structure Ot (st:AS) (sc b:Nat):Prop where
 sc:∃dx gd lk v w,st sc=some (.inst 4 dx [(27,.ref b),(50,.ref gd),(51,v),(52,.ref lk),(36,.int 1),(53,.int 0),(32,w)])/\Bo st gd/\∃dy x y,st lk=some (.inst 3 dy [(37,.str [108,105,103,97,116,117,114,101]),(47,.int 0),(48,x),(49,y)])
theorem Bo.le (h:Bo b a) (e:eD b q):Bo q a:=let ⟨f,l,i,g,c,d,k,j⟩:=h;⟨f,l,i,g,c,d,e _ _ k,j.le e⟩
variable {aE:List Inf}
theorem yL.le (h:yL b C aE) (e:eD b q):yL q C aE:=⟨h.1,λi r d=>let ⟨I,f,a,c⟩:=h.2 i r d;⟨I,f,a,e _ _ c⟩⟩
theorem Buf.grow (h:Buf b q a d o p C aE) (c:eD q ax):Buf b ax a d o p C aE:=
 ⟨b4 h.le c,c _ _ h.obj,c _ _ h.lst,h.inf.le c,h.nd,h.fb,h.fw,h.fr,h.len⟩
theorem Buf.at_ (h:Buf b q a d o p C aE) (c:I<aE.length):∃r,C[I]? =some r/\(C.map AV.ref)[I]? =some (.ref r)/\pG q r aE[I]:=by
 have i:I<C.length:=h.inf.1▸c
 have e:=df i
 refine eS (h.inf.2 I _ e) λj f g=>?_
 rw [df c] at f
 obtain rfl:=d3 f
 exact gq _ e (by rw [ed,e];rfl) g
theorem zp (h:Bo b d) (e:n (.int 0) b):eE PG (a+5) (.fn 67) [.ref d,.int p] b n:=by
 obtain ⟨j,s,q,o,c,r,i,f⟩:=id h
 obtain ⟨l,k,g,m⟩:=id f
 refine gO [some (.ref d),some (.int p),none] (c_ 2 _) rfl rfl (g8 (l:=.int 0) (λn e=>jr (eO (a5 rfl) i rfl) g rfl rfl rfl (iJ (a5 rfl)) (sf (c_ 3 _) f e)) (ei _ rfl (.ord rfl ⟨_,.bool _,_,ec _,e⟩)))
theorem Bp (g:∀e,eD b e->n (.int 0) e):eE PG (a+3) (.fn 22) [.int 0] b n:=by
 refine gO [some (.int 0)] (c_ 2 _) rfl rfl (gq [(1,.int 2),(2,.int 4),(3,.int 8)] rfl (by decide) (λc f=>?_))
 have d:=fM (ay:=.dict ([(1,.int 2),(2,.int 4),(3,.int 8)].map λp:Int×AV=>(.int p.1,p.2))) f
 exact .dict d.at_ (.inl rfl) (Dg _ rfl _ d.at_ (.G9 (λp h=>by refine iQ p (ck.mp h) λq _=>?_;exact ⟨_,rfl⟩) (.inr ⟨by simp,_,ec _,g _ d.le⟩)))
noncomputable def Ee (g:Int):AV:=.tup [.str [103,108,121,112,104],.int g]
noncomputable def Gb (w:g9):AV:=.tup (w.map Ee)
theorem PY (h:Al i e b (.bin bM g D) λv _=>v= .int 0):At i e b (.bin bM g D) false:=λQ c=>h _ λv f a d=>by subst d;exact ei _ (.int 0) (c f a)
theorem PZ (a:aw=decide (p<=aB)) (Q:Bool->Prop) (c:Q aw):pV b Q .le (.int p) (.int aB):=.ord (congrArg some a.symm) c
theorem P0 {p:Og} (h:VE PG i g e b λv b=>VE PG i D e b λw b=>pV b (λr=>if r then VE PG i aL e b λu b=>pV b (λr=>∃t,nM b (.bool r) t/\bK t b) p w u else ∃t,nM b (.bool false) t/\bK t b) bI v w):VT PG i (.EP g bI D p aL) (VE PG i (.EP g bI D p aL)) e b bK:=h
theorem zJ (h:Bo b d) (k:b o=some (.inst 3 I [(37,l),(47,.int 0),(48,af),(49,b7)])):Cl (eE PG (a+6)) (.fn 23) [.ref d,.ref o,.int p] b λq _=>q= .bool false:=by
 refine jO [some (.ref d),some (.ref o),some (.int p),none,none] (c_ _ _) rfl rfl λl e R m=>?_
 (injection e with e;subst e)
 obtain ⟨r,y,w,u,c,x,j,s⟩:=id h
 refine g8 (l:=.int 0) (λQ g=>jr (a5 rfl) j rfl rfl rfl (iJ (a5 rfl)) (zp (a:=a) h g)) ?_
 refine pF (aw:=false) (PY λQ g=>wu (eO (a5 rfl) k rfl) (g6 dt (iJ (a5 rfl)) (Bp (a:=a+2) λi f=>.int rfl (g _ i f rfl)))) λi f=>⟨(by intros;contradiction),λ_=>?_⟩
 exact s_end (ki (aw:=true) (f9 (fU (a5 rfl) dt (ne_int rfl))) (λ_=>iM dt (m _ _ _ f rfl)) (by intros;contradiction))
theorem Gd (c:Buf b q o I ak p C aE) (u:Ot b d o) (t:aI<aE.length):Cl (eE PG (a+7)) (.fn 24) [.ref d,.int aI] q λv _=>v= .bool false:=by
 refine jO [some (.ref d),some (.int aI)] (c_ _ _) rfl rfl λk e R l=>?_
 (injection e with e;subst e)
 refine zR u.sc λD J F v w j=>mV j λB z m=>Ig m λK x y h=>?_
 obtain ⟨r,E,A,G,g⟩:=c.at_ t
 have f:=c.le _ _ B
 exact sh (gw dt (vE (eO (a5 rfl) f rfl) (eO (a5 rfl) f rfl) (eO (fq (eO (eO (a5 rfl) f rfl) c.obj rfl) c.lst (a5 rfl) A) g rfl)) (zJ (a:=a) (z.le c.le) (c.le _ _ h))) λv H i s=>l _ _ _ i s
theorem eq_str (a:∀c∈C,c<128) (Q:Bool->Prop) (d:Q true):pV b Q .eq (.str C) (.str C):=.eq (.plain (.str _ C a) (.str _ C a) true ⟨λ_=>rfl,λ_=>rfl⟩) d
theorem CZ (c:n (.bool (decide (p=aB))) b):eE PG (a+3) (.fn 26) [Ee p,.int aB] b n:=
 gO [some (Ee p),some (.int aB)] (c_ 2 _) rfl rfl (ki (aw:=true) (f9 (fU (pk (a:=0) (a5 rfl) dt rfl) dt (eq_str (by decide)))) (λ_=>iM (fU (pk (a:=1) (a5 rfl) dt rfl) (a5 rfl) (eq_int rfl)) (ei _ (ec _) c)) (by intros;contradiction))
variable {cq:Inf}
theorem HU (e:Ot b d o) (h:eD b q) (c:pG q I cq) (g:n (.bool true) q):eE PG (a+3) (.fn 27) [.ref d,.ref I] q n:=by
 refine Af e.sc λi l j v w f _=>?_
 obtain ⟨m,c⟩:=c
 exact gO [some (.ref d),some (.ref I)] (c_ 2 _) rfl rfl (iM (fU (ia (bZ:=1) (eO (a5 rfl) c rfl) (eO (a5 rfl) (h _ _ f) rfl) rfl) dt (ne_int rfl)) (ei _ (ec _) g))
theorem HV (i:av.length<=fE):Cl (eE PG (a+3)) (.fn 25) [tI av] b λv _=>v=Gb av:=by
 refine jO [some (tI av)] (c_ _ _) rfl rfl λk c R j=>?_
 (injection c with c;subst c)
 refine sh (pZ (a:=a+1) (n:=λv _=>v=Gb av) (qp (tx (λ_=>true) Ee av AV.int i (n:=λv _=>v=tI av) (jG (a5 rfl) rfl) (λv f _ e=>(ei .tup (λ_ _=>trivial) (by rw [e];exact λQ h=>.tup h))) λg _ f _=>(gq _ rfl xC (λ_ m _=>jG (g5 (iL dt (a5 rfl))) rfl))) λv s _ d=>?_) λ_ _=>rfl) λv s l d=>j _ _ _ l d
 rwa [jv.mpr λ_ _=>rfl] at d
theorem HW (e:Buf b q o I ak p C aE) (B:Ot b d o):
 Cl (eE PG (a+8)) (.fn 28) [.ref d,.int aI,.int 1,Ee aB,.tup [.str [122,119,106],.str [104,105,100,100,101,110]],.bool true] q λL _=>L=if (aE.map (·.g))[aI+1]? =some aB then .int (aI+1:Nat) else .int (-1):=by
 refine jO [some (.ref d),some (.int aI),some (.int 1),some (Ee aB),some (.tup [.str [122,119,106],.str [104,105,100,100,101,110]]),some (.bool true),none,none] (c_ _ _) rfl rfl λk A R l=>?_
 (injection A with A;subst A)
 refine Af B.sc λdx gd lk L w Z _=>?_
 refine g8 (l:=.int (aI+1:Nat)) (ia (a5 rfl) (a5 rfl) rfl) (oM 0 (λN j s=>s=q/\j=[some (.ref d),some (.int aI),some (.int 1),some (Ee aB),some (.tup [.str [122,119,106],.str [104,105,100,100,101,110]]),some (.bool true),some (.int (aI+1:Nat)),none]) ⟨rfl,rfl⟩ ?_)
 intro N j s U K T;clear T;obtain ⟨rfl,rfl⟩:=U
 have kn:=e.le _ _ Z
 have F:∀{X:Ak} {j:MM} {M:AS},eD s M->j[0]? =some (some (.ref d))->Ev X j M (.attr (.attr (.var 0) 27) 28) (.ref ak):=λJ V=>eO (eO (a5 V) (J _ _ kn) rfl) (J _ _ e.obj) rfl
 refine ei (decide (aI+1<aE.length)) (λQ g=>?_) (λs1 y=>⟨λr=>?_,λr=>?_⟩)
 .have O:=jd (a:=a+6) (F (j:=[some (.ref d),some (.int aI),some (.int 1),some (Ee aB),some (.tup [.str [122,119,106],.str [104,105,100,100,101,110]]),some (.bool true),some (.int (aI+1:Nat)),none]) (ec _) rfl) (f7 e.lst)
  rw [bb,e.inf.1] at O
  refine P0 (dt _ (a5 rfl _ (PZ (decide_eq_true (gC (aI+1))).symm _ ?_)))
  rw [if_pos rfl]
  exact O _ (n0 (decide_eq_decide.mpr h9.symm) _ (ei _ (.bool _) (g _ (ec _))))
 .have u:=of_decide_eq_true r
  have e:=e.grow y
  refine gi (e.at_ u) λP hr Y i=>?_
  have W:(aE.map (·.g))[aI+1]? =some aE[aI+1].g:=by rw [ed,df u];rfl
  rw [W] at l
  refine pF (aw:=true) (yy (aw:=false) (rO (gw dt (iL (a5 rfl) (a5 rfl)) (Gd (a:=a) e B u)))) λs2 D=>⟨λ_=>?_,(by intros;contradiction)⟩
  have e:=e.grow D
  have E:=b4 y D
  have i:pG s2 P aE[aI+1]:=let ⟨km,i⟩:=i;⟨km,D _ _ i⟩
  obtain ⟨dr,G⟩:=id i
  refine g8 (fq (F E rfl) e.lst (a5 rfl) Y) ?_
  refine ki (aw:=decide (aB=aE[aI+1].g)&&true) (yv (λQ g=>g6 dt (iL (a5 rfl) (eO (a5 rfl) G rfl)) (CZ (a:=a+4) (ei _ (.bool _) g))) λ_=>MS (aw:=true) (bN:=true) (λQ g=>g6 dt (iL (a5 rfl) (a5 rfl)) (HU (a:=a+4) B e.le i (ei _ (.bool _) g))) (by intros;contradiction)) (λf=>?_) λf=>?_
  .rw [Q3,decide_eq_true_iff] at f
   exact iM (a5 rfl) (l _ _ _ E (if_pos (congrArg some f.symm)).symm)
  .rw [Q3,decide_eq_false_iff_not] at f
   have H:∀s:List Nat,(∀kl∈s,kl<128)->Plain (.str s):=λs S=>.str _ s S
   refine s_end (ki (aw:=true) (f9 (fU (eO (a5 rfl) G rfl) (a5 rfl) λQ g=>.Cf (.tup (.str _ _ (by decide)) (λx f=>?_) false ⟨(by intros;contradiction),λh=>?_⟩) g)) (λ_=>iM (wo dt) (l _ _ _ E (if_neg λz=>f (d3 z).symm).symm)) (by intros;contradiction))
   .cases f with
    |head=>exact H _ (by decide)
    |tail _ f=>
     cases f with
     |head=>exact H _ (by decide)
     |tail _ f=>exact (ee f).elim
   .cases h with
    |tail _ h=>
     cases h with
     |tail _ h=>exact (ee h).elim
 .refine iM (wo dt) (l _ _ _ y (if_neg λz=>?_).symm)
  exact of_decide_eq_false r (by have:=gy z;rwa [bb] at this)
theorem prefix_at {X:List h} (a:dq++dp::dT<+:X):X[dq.length]? =some dp:=by
 refine j_ a λs b=>?_;subst b
 rw [eC,fj (eJ _),jB];rfl
theorem Ge (b:dq<+:dT) (a:dT[dq.length]? =some dp):dq++[dp]<+:dT:=by
 obtain ⟨s,rfl⟩:=b
 rw [fj (eJ _),jB] at a
 induction s using ej with
 |nil=>contradiction
 |cons x s=>(injection a with a;subst a);exact oJ s (by rw [eC];rfl)
noncomputable def js (at_ k:Nat):List AV:=(eQ k).map λi=>sk (at_+i)
theorem NH (d:Ev i e b g (.tup j)) (c:Ev i e b D (.int a)):Ev i e b (.tZ g D (.cst .none)) (.tup (j.drop a)):=λQ f=>d _ (c _ (.tup AU f))
theorem Jh (m:Ev i e b g (.ref a)) (l:b a=some (.list j)) (h:Ev i e b D (.int d)):Al i e b (.tZ g D (.cst .none)) (gN b (j.drop d)):=λQ k=>MU m l h λc f=>k _ _ (mU f.1) (ei c rfl ((fM f).own (ec _)))
theorem z4 (c:Ev i e b g (.ref a)) (f:b a=some (.list (j++[l]))):Ev i e b (.sub g (.neg (.cst (.int 1)))) l:=DP c (wo dt) λQ d=>.list f (by
 unfold itemAt
 rw [if_neg (by decide),if_pos (show (-1:Int).natAbs<=(j++[l]).length by rw [bh];exact c_ _ _),bh]
 exact jz) d
theorem p7 (a k:Nat):js a (k+1)=js a k++[sk (a+k)]:=by unfold js;rw [List.range_succ,b_];rfl
theorem HX (f:Buf b q o I ak p C aE) (O:Ot b d o) (y:(aE.map (·.g))[aI]? =some aB) (hr:av.length<=1000):
 Cl (eE PG (a+9)) (.fn 29) [.ref d,.int aI,Gb (aB::av)] q λv S=>(av<+:(aE.map (·.g)).drop (aI+1)/\∃c,v= .ref c/\i0 q S c (.list (js aI (av.length+1))))\/(¬av<+:(aE.map (·.g)).drop (aI+1)/\v= .none):=by
 refine jO [some (.ref d),some (.int aI),some (Gb (aB::av)),none,none,none] (c_ _ _) rfl rfl λku u R J=>?_
 (injection u with u;subst u)
 have M:aI<aE.length:=by have:=gy y;rwa [bb] at this
 obtain ⟨ri,kq,W,dr,Z⟩:=f.at_ M
 have P:aB=aE[aI].g:=by rw [ed,df M] at y;exact (d3 y).symm
 refine Af O.sc λdx gd lk v w h1 _=>?_
 have Y:=f.le _ _ h1
 refine pF (aw:=false) (yy (aw:=true) (rO λQ X=>g6 dt (iL (pk (a:=0) (a5 rfl) dt rfl) (eO (fq (eO (eO (a5 rfl) Y rfl) f.obj rfl) f.lst (a5 rfl) W) Z rfl)) (CZ (a:=a+5) (X _ _ (ec _) (congrArg _ (decide_eq_true P)))))) λs1 F=>⟨(by intros;contradiction),λ_=>s_end ?_⟩
 refine sG (iJ (a5 rfl)) λc s2 H=>oR (NH (a:=1) (a5 rfl) dt) (iG .tup av Ee (λQ h=>.tup h) (λD m s=>eD q s/\i0 q s c (.list (js aI (D.length+1)))/\D<+:(aE.map (·.g)).drop (aI+1)/\∃A r,m=[some (.ref d),some (.int aI),some (Gb (aB::av)),some (.ref c),A,r]) (wR (b4 F H.le) (H.own F) uk _ _ rfl) (λ_ _ _ _=>trivial) ?_ ?_)
 .intro D i r' m V G km K hK;refine zS m km λg e B A r=>?_
  refine ei _ rfl ?_
  have E:=e.at_
  rw [p7] at E
  refine yz (gw dt (oE (a5 rfl) (oE (z4 (a5 rfl) E) (oE dt (vE (a5 rfl) dt dt)))) (HW (a:=a) (aI:=aI+D.length) (f.grow g) O)) λv s4 z l=>?_
  have N:∀x,(aE.map (·.g))[aI+D.length+1]? =some x↔((aE.map (·.g)).drop (aI+1))[D.length]? =some x:=λx=>by
   rw [pa,gZ]
  have kn:D.length<av.length:=by rw [G,bh,e_];exact gj (fz _)
  by_cases j:(aE.map (·.g))[aI+D.length+1]? =some i
  .rw [if_pos j] at l
   subst l
   have U:=e.le z
   refine ki (aw:=false) (f9 (fU (a5 rfl) dt (n0 (decide_eq_false (nq.mpr (gC _))).symm))) (by intros;contradiction) λ_=>s_end (qD (a5 rfl) U.at_ ?_ (a5 rfl) λs5 L=>hK _ _ (wR (L.le (b4 g z) e.fr) ?_ (Ge B ((N i).mp j)) _ _ rfl))
   .unfold js;rw [bb,fc];exact c4 (a_ kn hr) (by unfold fE;decide)
   .rw [bh,show D.length+[i].length+1=(D.length+1)+1 from rfl,p7]
    exact L.own e.fr
  .rw [if_neg j] at l
   subst l
   exact ki (aw:=true) (f9 (fU (a5 rfl) dt (n0 rfl))) (λ_=>iM dt (J _ _ _ (b4 g z) (.inr ⟨λkl=>j ((N i).mpr (prefix_at (G▸kl))),rfl⟩))) (by intros;contradiction)
 .intro m V T;refine zS m T λg e B A r=>?_
  exact iM (a5 rfl) (J _ _ _ g (.inl (tP B c rfl e)))
theorem Bq (c:pG b d cq) (f:cq.id=0) (e:n (.bool false) b):eE PG (a+3) (.fn 30) [.ref d] b n:=by
 obtain ⟨g,c⟩:=c
 refine gO [some (.ref d)] (c_ 2 _) rfl rfl (iM (l:=.bool false) (Nm (aw:=false) (bN:=false) (fU (eO (a5 rfl) c rfl) dt (ne_int (by rw [f];rfl))) (by intros;contradiction)) (ei _ (ec _) e))
theorem vv (b:o<d):(js a d)[o]? =some (.int (a+o:Nat)):=by unfold js;rw [ed,ju b];rfl
theorem B2 (F:b d=some (.list (C.map .ref))) (B:yL b C aE) (H:b o=some (.list (js I (ak+1)))) (G:I+ak<aE.length) (hf:∀j c,I<=j->aE[j]? =some c->c.id=0):
 Cl (eE PG (a+5)) (.fn 31) [.ref d,.ref o] b λv _=>v= .bool true:=by
 have J:∀j,I+j<aE.length->∃r c,(C.map AV.ref)[I+j]? =some (.ref r)/\pG b r c/\c.id=0:=λj hj=>by
  have S:I+j<C.length:=B.1▸hj
  have e:=df S
  refine eS (B.2 _ _ e) λc z g=>?_
  exact nr _ c (by rw [ed,e];rfl) g (hf _ c (eg _ _) z)
 refine jO [some (.ref d),some (.ref o),none,none,none] (c_ _ _) rfl rfl λk' u R T=>?_
 (injection u with u;subst u)
 refine jS (J 0 (c4 (eg _ _) G)) λN I0 z g O=>?_
 refine g8 (fq (a5 rfl) F (fq (d:=0) (a5 rfl) H dt (vv (fz _))) z) (rd (Jh (d:=1) (a5 rfl) H dt) λv s1 E V=>?_)
 refine jj v V λc1 q=>?_
 have P:(js I (ak+1)).drop 1=(eQ ak).map λi=>sk (I+(1+i)):=by
  unfold js
  rw [<-oT,uf,List.drop_succ_cons,rG,er]
  exact fk λi _=>by show sk (I+(i+1))=_;rw [eY i]
 rw [P] at q
 refine iG (.list c1 _) (eQ ak) (λi=>sk (I+(1+i))) (λQ=>gH q.at_) (λD m s=>eD s1 s/\∃x p,m=[some (.ref d),some (.ref o),some (.ref N),x,p]) ⟨(ec _),_,_,rfl⟩ (λ_ _ _ h=>h.1 _ _ q.at_) ?_ ?_
 .intro D y r' m s2 M kl K U;refine Cb kl λl x p f=>?_;subst f
  refine Qm y (rn M) λZ=>?_
  refine jS (J (1+D.length) (by exact y3 G Z)) λry Iy X f g3=>?_;obtain ⟨dy,g2⟩:=f
  have w:=b4 E l
  obtain ⟨Y,g⟩:=g
  refine ei _ rfl (g8 (fq (a5 rfl) (w _ _ F) (a5 rfl) X) ?_)
  refine pF (aw:=false) (rO λQ A=>g6 dt (iJ (a5 rfl)) (Bq (a:=a+1) ⟨Y,w _ _ g⟩ O (A _ _ (ec _) rfl))) λs3 L=>⟨(by intros;contradiction),λ_=>?_⟩
  have km:=b4 w L
  exact ki (aw:=false&&false) (yv (λQ A=>g6 dt (iJ (a5 rfl)) (Bq (a:=a+1) ⟨dy,km _ _ g2⟩ g3 (ei _ (.bool _) A))) (by intros;contradiction)) (by intros;contradiction) λ_=>U _ _ ⟨(b4 l L),_,_,rfl⟩
 .intro m s2 W;refine Cb W λl x p f=>?_;subst f
  exact iM dt (T _ _ _ (b4 E l) rfl)
noncomputable abbrev Kp:AV:=.str [108,105,103,97,116,117,114,101]
noncomputable def uV (is is':List Inf):Prop:=is'.length=is.length/\∀(j:Nat) I',is'[j]? =some I'->∃I,is[j]? =some I/\I'.g=I.g/\I'.id=I.id
theorem uV.refl (a:List Inf):uV a a:=⟨rfl,λj I h=>(gq I h rfl rfl)⟩
variable {cO:List Inf}
theorem uV.trans {c:List Inf} (h:uV aE cO) (a:uV cO c):uV aE c:=⟨a.1.trans h.1,λj I f=>by
 refine gi (a.2 j I f) λJ g d e=>?_
 refine gi (h.2 j J g) λK i b k=>?_
 exact (gq K i (d.trans b) (e.trans k))⟩
theorem NI {c:Inf} (d:aE[a]? =some cq) (h:c.g=cq.g/\c.id=cq.id):uV aE (aE.set a c):=⟨gI,λj J b=>by
 rw [nJ] at b
 by_cases e:a=j
 .subst e
  rw [if_pos rfl,if_pos (gy d)] at b
  obtain rfl:=d3 b;exact ei cq d h
 .rw [if_neg e] at b;exact (gq J b rfl rfl)⟩
theorem Buf.upd {I':Inf} (h:Buf b q a d o p C aE) (g:C[ak]? =some I) (f:BY q ax I) (t:pG ax I I'):Buf b ax a d o p C (aE.set ak I'):=by
 obtain ⟨z,u,y,l⟩:=h.inf.2 ak I g
 have m:=h.fr I (fh g)
 refine ⟨λx v e=>(f x λc=>by rw [c,m] at e;contradiction).trans (h.le x v e),(f a λc=>by have:=oi h.obj (c▸l);(injection this;contradiction)).trans h.obj,(f o λc=>by have:=oi h.lst (c▸l);contradiction).trans h.lst,⟨by rw [gI];exact h.inf.1,λj r i=>?_⟩,h.nd,h.fb,h.fw,h.fr,by rw [gI];exact h.len⟩
 obtain ⟨J,n,w,s⟩:=h.inf.2 j r i
 rw [nJ]
 by_cases k:ak=j
 .clear h f l m n s;subst k
  rw [g] at i;obtain rfl:=d3 i
  rw [if_pos rfl,if_pos (gy u)]
  exact ei I' rfl t
 .rw [if_neg k]
  exact ⟨J,n,w,(f r λc=>k (yG h.nd g (c▸i))).trans s⟩
theorem Buf.with (h:Buf b q a d o p C aE) (k:eD q ax) (f:i0 q ax I ay):Buf (b.set I ay) ax a d o p C aE:=by
 have c:∀x l,q x=some l->b x=none->(b.set I ay) x=none:=λx l e t=>(gv λn=>by rw [n,f.fr] at e;contradiction).trans t
 have g:=h.grow k
 refine ⟨(tE h.le k f).2,g.obj,g.lst,g.inf,g.nd,c _ _ h.obj h.fb,c _ _ h.lst h.fw,λr j=>?_,h.len⟩
 obtain ⟨i,m⟩:=eZ.mp j
 obtain ⟨u,_,v,s⟩:=h.inf.2 i r m
 exact c _ _ s (h.fr r j)
theorem Buf.base (h:Buf ax q a d o p C aE) (c:eD b ax):Buf b q a d o p C aE:=
 ⟨b4 c h.le,h.obj,h.lst,h.inf,h.nd,jE c h.fb,jE c h.fw,λr e=>jE c (h.fr r e),h.len⟩
theorem Buf.zip (h:Buf b q a d o p C aE):C.map AV.ref=(C.zip aE).map (λc=>.ref c.1)/\∀c∈C.zip aE,pG q c.1 c.2:=by
 constructor
 .rw (config:={}) [show (λc:Nat×Inf=>AV.ref c.1)=AV.ref∘yY from rfl,<-er,List.map_fst_zip (gu h.inf.1)]
 .intro c k
  refine j_ (eZ.mp k) λi g=>?_
  obtain ⟨j,f⟩:=List.getElem?_zip_eq_some.mp g
  refine eS (h.inf.2 i _ j) λI e l=>?_
  rw [f] at e;obtain rfl:=d3 e
  exact l
theorem Gf (s:Al i e b g (gN b j)) (k:∀x∈j,Plain x) (m:∀f,eD b f->n (.bool (!decide (j=[]))) f):Al i e b (.cmp g .ne (.lst .nil)) n:=
 AW s λv u q p=>by
  refine jj v p λc o=>?_
  exact λQ l d a=>l _ _ (mU a.1) λt r=>.ne (.list ((fM a).le _ _ o.at_) (fM a).at_ k (λ_ h=>absurd h ee) _ decide_eq_true_iff) (r _ (m _ (b4 q (fM a).le)))
theorem NJ (h:Bo b d) (y:b o=some (.list (av.map .int))) (s:2<=av.length) (B:av.length<=fE):Cl (eE PG (a+6)) (.fn 37) [.ref d,.ref o] b λC _=>C=Kp:=by
 refine jO [some (.ref d),some (.ref o)] (c_ _ _) rfl rfl λE p R A=>?_
 (injection p with p;subst p)
 refine pF (aw:=true) (wq (Gf (FI (λ_=>true) AV.int (dq:=av.drop 1) (dE:=AV.int) (a_ (by rw [ey];exact jQ _ _) B) (by have:=Jh (i:=eE PG (a+5)) (e:=[some (.ref d),some (.ref o)]) (g:=.var 1) (D:=.cst (.int 1)) (d:=1) (a5 rfl) y dt;rwa [<-oT] at this) λg _ r j=>(gq [none,some (.int g),some (.ref d)] rfl (tw (pv (f9 (fU (l:=.int 0) (λQ z=>?_) dt (ne_int rfl))))) (λ_ G _=>jG (a5 rfl) rfl))) (λx w=>?_) λr j=>?_)) λr j=>⟨λ_=>iM dt (A _ _ _ j rfl),(by intros;contradiction)⟩
 .obtain ⟨D,K,I,H,c,J,u,F⟩:=h.le j
  exact jr (a5 rfl) u rfl rfl rfl (iJ (a5 rfl)) (zp (a:=a) (h.le j) z)
 .refine iQ x (ck.mp w) λg _=>?_;exact .int _ _
 .rewrite [jv.mpr λ_ _=>rfl,decide_eq_false λq=>?_]
  .rfl
  .have:=congrArg fi q
   rw [bb,ey] at this
   exact x9.mpr s (nG this)
theorem yM (c:pG b d cq) (g:∀f e,BY b e d->pG e d f->f.g=cq.g/\f.id=cq.id->n .none e):eE PG (a+3) (.fn 15) [.ref d,.int p] b n:=by
 obtain ⟨j,c⟩:=c
 refine gO [some (.ref d),some (.int p)] (c_ 2 _) rfl rfl (ki (f9 (fU (eO (a5 rfl) c rfl) (a5 rfl) (ne_int rfl))) (λ_=>?_) λ_=>(ei _ (ec _) (g cq b (λ_ _=>rfl) ⟨j,c⟩ ⟨rfl,rfl⟩)))
 refine iq (a5 rfl _ (i8 (a5 rfl) c λl u1=>iq (dt _ (i8 (a5 rfl) u1.at_ λk u2=>(ei _ (ec _) (g ⟨cq.g,p,false,cq.id,cq.part,cq.cnt⟩ k (λi h=>(u2.ne i h).trans (u1.ne i h)) ⟨j,u2.at_⟩ ⟨rfl,rfl⟩))))))
theorem B3 (c:Buf b q d o I p C aE) (k:∀h,Buf b h d o I (p+1) C aE->n (.int (p+1)) h):eE PG (a+3) (.fn 13) [.ref d] q n:=by
 refine gO [some (.ref d)] (c_ 2 _) rfl rfl (iq (ia (eO (a5 rfl) c.obj rfl) dt rfl _ (i8 (a5 rfl) c.obj λs u1=>iM (eO (a5 rfl) u1.at_ rfl) (ei _ (ec _) (k s ?_)))))
 refine ⟨u1.le c.le c.fb,u1.at_,(u1.ne I λf=>by have e:=c.lst;rw [f,c.obj] at e;(injection e;contradiction)).trans c.lst,⟨c.inf.1,λi r l=>?_⟩,c.nd,c.fb,c.fw,c.fr,c.len⟩
 obtain ⟨j,e,m,g⟩:=c.inf.2 i r l
 exact ⟨j,e,m,(u1.ne r λf=>by have:=oi g (f▸c.obj);(injection this;contradiction)).trans g⟩
theorem zK (c:pG b d cq) (e:n (.int (max cq.cnt 1)) b):eE PG (a+3) (.fn 36) [.ref d] b n:=by
 obtain ⟨f,c⟩:=c
 exact gO [some (.ref d)] (c_ 2 _) rfl rfl (iM (xx dt (iL (eO (a5 rfl) c rfl) dt) λn e=>jI (a:=a+1) (.mk (.mk (.mk e)))) (ei _ (ec _) e))
theorem zL {d:Int} (e:n .none b):eE PG (a+3) (.fn 39) [l,.int p,.int 0,.int aB,.int bZ,.int d] b n:=by
 refine gO [some l,some (.int p),some (.int 0),some (.int aB),some (.int bZ),some (.int d),none] (c_ 2 _) rfl rfl (g8 (a5 rfl) (oM 0 (λN m s=>s=b/\m=[some l,some (.int p),some (.int 0),some (.int aB),some (.int bZ),some (.int d),some (.int p)]) ⟨rfl,rfl⟩ ?_))
 intro N m s g K h;refine KV s m g ?_
 refine ei (false&&false) (λn e=>yv (aw:=false) (bN:=false) (f9 (fU (a5 rfl) dt (xK rfl))) (λbZ=>nomatch bZ) _ (e _ (ec _))) (λi f=>⟨(by intros;contradiction),λ_=>⟨_,f,e⟩⟩)
noncomputable def Ss (is:List Inf) (i:Nat):Int:=((is[i]?).map Inf.cl).getD 0
theorem Kq (h:0<a):((a:Int) -1)=((a -1:Nat):Int):=by exact (Sg h).symm
theorem min_mem:∀(l:List Int),l≠[]->∃m∈l,∀x∈l,m<=x
 |[x],_=>ei x (.head _) (λy d=>by rw [dk.mp d];exact v8 _)
 |x::y::l,_=>by
  refine eS (min_mem (y::l) (qa _ _)) λm c b=>?_
  rcases S2 m x with h |h
  .exact ei m (.tail _ c) (λz a=>(eK.mp a).elim (λe=>e▸h) (b z))
  .exact ei x (.head _) (λz a=>(eK.mp a).elim (λe=>e▸v8 _) λa=>jD h (b z a))
theorem Ji (l:b a=some (.list (C.map .ref))) (c:yL b C aE) (n:e[o]? =some (some (.ref a))) (p:Ev i e b g (.int d)) (j:d<aE.length):Ev i e b (.attr (.sub (.var o) g) 35) (.int (Ss aE d)):=by
 have m:d<C.length:=c.1▸j
 have f:=df m
 obtain ⟨I,k,q,h⟩:=c.2 _ _ f
 unfold Ss
 rw [k]
 exact eO (fq (a5 n) l p (by rw [ed,f];rfl)) h rfl
theorem yL.We (h:b a=some (.list (C.map .ref))/\yL b C aE) (c:eD b q):q a=some (.list (C.map .ref))/\yL q C aE:=⟨c _ _ h.1,h.2.le c⟩
theorem Ef (i:b d=some (.list (C.map .ref))/\yL b C aE) (H:o<I) (F:I<=aE.length):Cl (eE PG (a+4)) (.fn 16) [.ref d,.int o,.int I] b λU _=>∃f c:Nat,f<=o/\I<=c/\c<=aE.length/\U= .tup [.int f,.int c]:=by
 have Y:∀{m:MM} {s:AS},eD b s->m[0]? =some (some (.ref d))->Ev (eE PG (a+3)) m s (.call (.cst (.bi 0)) (.cons (.var 0) .nil)) (.int aE.length):=λe r=>by
  have:=jd (a:=a+2) (a5 r) (f7 (e _ _ i.1))
  rwa [bb,i.2.1] at this
 have q:∀{m:MM} {s:AS} {j u:Nat},m[j]? =some (some (.int u))->0<u->Ev (eE PG (a+3)) m s (.bin .sub (.var j) (.cst (.int 1))) (.int (u -1:Nat)):=λr O Q X=>ia (a5 r) dt rfl _ (by rw [Kq O];exact X)
 refine jO [some (.ref d),some (.int o),some (.int I),none,none] (c_ _ _) rfl rfl λZ w R M=>?_
 (injection w with w;subst w)
 refine g8 (a5 rfl) (g8 (a5 rfl) (oM (aE.length -I) (λN m s=>eD b s/\∃c:Nat,m=[some (.ref d),some (.int o),some (.int I),some (.int o),some (.int c)]/\I<=c/\c<=aE.length/\N=aE.length -c) (wU (ec _) I rfl (eJ _) F rfl) ?_))
 intro N m s S K P;refine OK S λe c t z G W=>?_;subst t;subst W
 have J:0<c:=eh (c4 (ft _) H) z
 refine iK (yL.We i e) λg h=>?_
 refine ei (decide (c<aE.length)&&decide (Ss aE c=Ss aE (c -1))) (pv (yv (f9 (fU (a5 rfl) (Y e rfl) (n0 (decide_eq_decide.mpr h9.symm)))) λp=>f9 (fU (Ji g h rfl (a5 rfl) (of_decide_eq_true p)) (Ji g h rfl (q rfl J) (eh (kf J j9) G)) (eq_int rfl)))) (λs1 A=>⟨λl=>?_,λ_=>?_⟩)
 .have L:=of_decide_eq_true (qx.mp l).1
  exact g8 (ia (bZ:=((c+1:Nat):Int)) (a5 rfl) dt rfl) (P _ _ _ (i3 L (fG c)) (wU (b4 e A) (c+1) rfl (fY z) L rfl))
 .refine oM o (λN m s=>eD b s/\m=[some (.ref d),some (.int o),some (.int I),some (.int N),some (.int c)]/\N<=o) (iz (b4 e A) rfl (eJ _)) ?_
  intro f m s2 V K2 T;refine mV V λy t x=>?_;subst t
  refine iK (yL.We i y) λg h=>?_
  have E:f<aE.length:=c4 x (eh H F)
  refine ei (decide (0<f)&&decide (Ss aE (f -1)=Ss aE f)) (pv (yv (f9 (fU (a5 rfl) (dt (l:=.int (0:Nat))) (xK (decide_eq_decide.mpr h9.symm)))) λp=>f9 (fU (Ji g h rfl (q rfl (of_decide_eq_true p)) (c4 (jQ _ _) E)) (Ji g h rfl (a5 rfl) E) (eq_int rfl)))) (λs3 D=>⟨λl=>?_,λ_=>?_⟩)
  .have B:=of_decide_eq_true (qx.mp l).1
   exact g8 (q rfl B) (T _ _ _ (kf B j9) (iz (b4 y D) rfl (a_ (jQ _ _) x)))
  .exact iM (g5 (iL (a5 rfl) (a5 rfl))) (M _ _ _ (b4 y D) (pf f c x z G rfl))
theorem C0 (n:Ev i e b g (.ref a)) (l:b a=some (.list (dq.map dE))) (k:Ev i e b D (.int d)) (m:Ev i e b aL (.int o)):Al i e b (.tZ g D aL) (gN b (((dq.drop d).take (o -d)).map dE)):=λQ j=>n _ (k _ (m _ (.list l IX λc f=>j _ _ (mU f.1) (ei c rfl (by rw [<-qh,<-oT,B9];exact (fM f).own (ec _))))))
theorem P1 (k:Al i e b g n) (h:∀v a,eD b a->n v a->∃d c,v= .tup d/\jN C (.tup d) e=some c/\2<=C.length/\jo PG i ah c a ag):jo PG i (.cons (.ta C g) ah) e b ag:=k _ λv a j f=>by
 exact h v a j f
theorem HY (c:Buf b q d o I p C aE) (H:ak+2<=aI) (P:aI<=aE.length) (hQ:∀M g,Buf b M d o I p C g->uV aE g->n .none M):eE PG (a+5) (.fn 17) [.ref d,.int ak,.int aI] q n:=by
 refine gO [some (.ref d),some (.int ak),some (.int aI),none,none,none,none] (c_ 2 _) rfl rfl ?_
 have J:ak<aI:=pI H
 refine ki (aw:=false) (f9 (fU (ia (a5 rfl) (a5 rfl) rfl) dt (n0 (decide_eq_false (W8 H)).symm))) (by intros;contradiction) λ_=>s_end ?_
 clear H;refine iK c.zip λR z2=>?_
 have N:(C.zip aE).length=aE.length:=by rw [OD,c.inf.1,GW]
 have L:=c.lst
 rw [R] at L
 refine je (jJ (xD (λj:Nat×Inf=>.int j.2.cl) (a_ (List.length_take_le' _ _) ?_) (C0 (d:=ak) (o:=aI) (eO (a5 rfl) c.obj rfl) L (a5 rfl) (a5 rfl)) (λj w s1 A=>(ei [none,some (.ref j.1)] rfl ?_)) _ λv s1 A u=>?_))
 .rw [ey,N];exact a_ (jQ _ _) (a_ c.len (by unfold fE;decide))
 .obtain ⟨kC,hd⟩:=z2 j (vH (qr w))
  exact jG (eO (a5 rfl) (A _ _ hd) rfl) rfl
 refine jj v u λc1 o1=>?_
 obtain ⟨B,kq,kx⟩:=min_mem ((((C.zip aE).drop ak).take (aI -ak)).map λj=>j.2.cl) (λku=>by
  have:=congrArg fi ku
  rw [bb,fR,ey,N] at this
  have:min (aI -ak) (aE.length -ak)=0:=this
  exact W9 J P this)
 refine jI (a:=a+3) (.mk (.mk o1.at_ ?_))
 refine gq B (λx T=>?_) ?_ ?_
 .refine iQ x (ck.mp T) λj w=>?_
  exact ei _ rfl (kx _ (fC w))
 .refine eS (ck.mp kq) λj w e=>?_
  exact ck.mpr (ei j w (congrArg AV.int e))
 have c:=c.grow A
 refine P1 (gw dt (vE (eO (a5 rfl) c.obj rfl) (a5 rfl) (a5 rfl)) (Ef (a:=a) ⟨c.lst,c.inf⟩ J P)) λv s2 l2 u=>?_
 refine nV u λk r hf ky kB Y=>?_;subst Y
 refine pf _ [some (.ref d),some (.int ak),some (.int aI),none,some (.int B),some (.int k),some (.int r)] rfl rfl (eJ _) ?_
 have c:=c.grow l2
 refine rd (C0 (dq:=C) (dE:=.ref) (d:=k) (o:=r) (eO (a5 rfl) c.obj rfl) c.lst (a5 rfl) (a5 rfl)) λv s3 O u=>?_
 refine jj v u λc2 F=>?_
 have Z:=(tE c.le O F).1
 have S:=c.with O F
 have km:=gW b c2 (.list (((C.drop k).take (r -k)).map .ref))
 generalize va b c2 _=sb at*
 refine iG (.list c2 _) ((C.drop k).take (r -k)) .ref (λn=>gH F.at_) (λD m s=>∃g E,Buf sb s d o I p C g/\uV aE g/\m=[some (.ref d),some (.int ak),some (.int aI),E,some (.int B),some (.int k),some (.int r)]) (nr aE _ S (.refl aE) rfl) (λ_ _ _ V=>i5 V λ_ _ h _=>h.le _ _ km) ?_ ?_
 .intro D y r' m Q hD kl K hK;refine Lo m kl λg E z G=>?_
  refine j_ (eZ.mp (vH (qr (mid hD)))) λi aI=>?_
  refine eS (z.inf.2 i y aI) λkz X g2=>?_
  exact ei _ rfl (FU (g6 dt (iL (a5 rfl) (a5 rfl)) (yM (a:=a+1) g2 λI' s5 U kn hg=>hK _ _ ⟨g.set i I',_,z.upd aI U kn,G.trans (NI X hg),rfl⟩)))
 .intro m Q W;refine Lo m W λg E z G=>?_
  exact ei _ (ec _) (hQ Q g (z.base Z) G)
theorem vw (i:Ev (eE PG (a+1)) e b g (.int d)) (h:Ev (eE PG (a+1)) e b D (.int o)) (c:d<=1000000) (j:o<=1000000):Ev (eE PG (a+1)) e b (.call (.cst (.bi 4)) (.cons g (.cons D .nil))) (.pT d o 1):=xx dt (iL i h) λQ f=>jI (ei [(d:Int),(o:Int)] rfl (.two ⟨c,j,f⟩))
theorem Eg (T:b d=some (.list (C.map .ref))) (V:yL b C aE) (B:b o=some (.list (js I (ak+1)))) (x:I+ak<aE.length) (M:aE.length<=10000) (hf:∀q c,I<=q->aE[q]? =some c->c.id=0):
 Cl (eE PG (a+5)) (.fn 40) [.ref d,.ref o,Kp,.int p] b λkn _=>∃kl:Int,kn= .int kl:=by
 have Y:∀q,I+q<aE.length->∃r c,(C.map AV.ref)[I+q]? =some (.ref r)/\pG b r c/\c.id=0:=λq hj=>by
  have hr:I+q<C.length:=V.1▸hj
  have e:=df hr
  refine eS (V.2 _ _ e) λc h1 h2=>?_
  exact nr _ c (by rw [ed,e];rfl) h2 (hf _ c (eg _ _) h1)
 refine jO [some (.ref d),some (.ref o),some Kp,some (.int p),none,none,none,none,none,none] (c_ _ _) rfl rfl λk' J R hR=>?_
 (injection J with J;subst J)
 have Z:∀{m:MM} {s:AS} {w:Nat} {c:Inf},eD b s->m[4]? =some (some (.ref w))->pG b w c->Ev (eE PG (a+4)) m s (.call (.cst (.fn 36)) (.cons (.var 4) .nil)) (.int (max c.cnt 1)):=λz A ⟨F,N⟩ Q g=>g6 dt (iJ (a5 A)) (zK (a:=a+1) ⟨F,z _ _ N⟩ g)
 refine jS (Y 0 (c4 (eg _ _) x)) λr0 I0 g1 P g3=>?_
 obtain ⟨d0,kx⟩:=id P
 have W:∀{m:MM} {s:AS} {w:Nat} {c:Inf},eD b s->m[4]? =some (some (.ref w))->pG b w c->c.id=0->Ev (eE PG (a+4)) m s (.attr (.var 4) 24) (.int 0):=λz A ⟨F,N⟩ h0=>h0▸eO (a5 A) (z _ _ N) rfl
 have U:(js I (ak+1)).length=ak+1:=by unfold js;rw [bb,fc]
 refine g8 (fq (a5 rfl) T (fq (d:=0) (a5 rfl) B dt (vv (fz _))) g1) (q_ (g5 (vE dt (Z (ec _) rfl P) (W (ec _) rfl P g3))) rfl (c_ 2 _) (oR (vw (a:=a+3) (dt (l:=.int (1:Nat))) (jd (a:=a+3) (a5 rfl) (f7 B)) (by decide) (by rw [U];exact a_ (a_ (nS (c4 (c_ _ _) x)) M) (by decide))) ?_))
 rw [U]
 refine iG .pT (eQ (ak+1 -1)) (λu=>.int (1+u:Nat)) (λQ g=>tu g) (λD m s=>eD b s/\∃(r4:Nat) (G H:Int) (L E:Option AV),m=[some (.ref d),some (.ref o),some Kp,some (.int p),some (.ref r4),some (.int G),some (.int H),some (.int 0),L,E]) (EJ (ec _) _ _ _ _ _ rfl) (λ_ _ _ _=>trivial) ?_ ?_
 .intro D y r' m s1 hD ku K hK;refine EK m ku λf r4 G H L E=>?_
  refine Qm y (rn hD) λl=>?_
  have l:D.length<ak:=l
  have O:∀{m:MM} {s:AS} {e:CE} {u:Nat},eD b s->m[1]? =some (some (.ref o))->Ev (eE PG (a+4)) m s e (.int u)->u<ak+1->Ev (eE PG (a+4)) m s (.sub (.var 1) e) (.int (I+u:Nat)):=λz A he hi=>fq (a5 A) (z _ _ B) he (vv hi)
  refine ei _ rfl (ki (aw:=true) (f9 (fU (a5 rfl) dt (eq_str (by decide)))) (λ_=>?_) (by intros;contradiction))
  refine oR (vw (a:=a+3) (d:=I+(1+D.length)) (o:=I+(1+D.length)) ?_ (O f rfl (a5 rfl) (by exact S9 (eY 1 _) (ox l))) (by exact a_ (eA (y3 x l)) (a_ M (by decide))) (by exact a_ (eA (y3 x l)) (a_ M (by decide)))) ?_
  .exact λQ g=>ia (bZ:=((I+D.length+1:Nat):Int)) (O (u:=D.length) f rfl (ia (a5 rfl) dt (by show some (((1+D.length:Nat):Int) -1)=_;exact congrArg some Vh)) (by exact jq l)) dt rfl Q (by rw [show I+D.length+1=I+(1+D.length) by exact y5];exact g)
  refine iG .pT [] (λu:Nat=>.int u) (λQ g=>tu (by rw [show xy (I+(1+D.length)) (I+(1+D.length))=[] by unfold xy;rw [jB];rfl];exact g)) (λ_ m s=>s=s1/\m=[some (.ref d),some (.ref o),some Kp,some (.int p),some (.ref r4),some (.int G),some (.int H),some (.int 0),some (.int (1+D.length:Nat)),E]) ⟨rfl,rfl⟩ (λ_ _ _ _=>trivial) (λF y r m s e=>by rcases F with ⟨⟩<;>contradiction) ?_
  intro m s kq;refine KV s m kq ?_
  refine jS (Y (1+D.length) (by exact y3 x l)) λry Iy q1 X q3=>?_
  exact s_end (g8 (fq (a5 rfl) (f _ _ T) (O f rfl (a5 rfl) (by exact S9 (eY 1 _) (ox l))) q1) (q_ (g5 (vE (ia (a5 rfl) (a5 rfl) rfl) (Z f rfl X) (W f rfl X q3))) rfl (c_ 2 _) (hK _ _ (EJ f _ _ _ _ _ rfl))))
 .intro m s1 km;refine EK m km λf r4 G H L E=>?_
  have S:=f _ _ B
  rw [p7] at S
  refine ki (aw:=true) (f9 (fU (a5 rfl) dt λQ g=>.ne (.plain (.str _ _ (by decide)) (.str _ _ (by decide)) false ⟨(by intros;contradiction),λh=>by (injection h;contradiction)⟩) g)) (λ_=>?_) (by intros;contradiction)
  refine FU (g6 dt (oE (a5 rfl) (oE (ia (bZ:=((I+ak:Nat):Int)+1) (z4 (a5 rfl) S) dt rfl) (oE (a5 rfl) (vE (a5 rfl) (a5 rfl) (a5 rfl))))) (zL (a:=a+1) (s_end (iM (ia (a5 rfl) (a5 rfl) rfl) (hR _ _ _ f (oJ _ rfl))))))
noncomputable def gD (is:List Inf) (i:Nat):Int:=((is[i]?).map Inf.g).getD 0
noncomputable def VP (is:List Inf) (i:Nat):Bool:=((is[i]?).map Inf.un).getD false
noncomputable def Bs (a:Nat) (is is':List Inf):Prop:=is'.length=is.length/\∀(j:Nat) I',j≠a->is'[j]? =some I'->∃I,is[j]? =some I/\I'.g=I.g/\I'.id=I.id
theorem uV.one (h:uV aE cO) (a:Nat):Bs a aE cO:=⟨h.1,λj b _=>h.2 j b⟩
theorem Bs.set (h:Bs a aE cO) (I:Inf):Bs a aE (cO.set a I):=⟨by rw [gI];exact h.1,λj d b c=>h.2 j d b (by rwa [iH λq=>b q.symm] at c)⟩
theorem Bs.get (h:Bs a aE cO) (f:d≠a):(cO.map (·.g))[d]? =(aE.map (·.g))[d]? :=by
 rw [ed,ed]
 induction b:cO[d]? with
 |none=>
  have:=i6.mp b
  rw [h.1] at this
  rw [i_ this]
 |some I=>
  refine gi (h.2 d I f b) λJ e c _=>?_
  rw [e];exact congrArg some c
noncomputable def wB {α:Type} (l:List α) (a k:Nat) (x:α):List α:=l.take a++x::l.drop (a+k+1)
theorem xQ (g:a<=dq.length) (j:Nat):(wB dq a d dp)[j]? =if j<a then dq[j]? else if j=a then some dp else dq[j+d]? :=by
 have e:(dq.take a).length=a:=by rw [fR,j3 g]
 unfold wB
 by_cases b:j<a
 .rw [if_pos b,eN (by rw [e];exact b),Ew b]
 .rw [if_neg b,fj (by rw [e];exact iY.mp b),e]
  by_cases c:j=a
  .rw [if_pos c,c,jB];rfl
  .rw [if_neg c]
   obtain ⟨f,rfl⟩:∃f,j=a+(f+1):=⟨j -a -1,W' b c⟩
   rw [ib,tN,pa]
   exact congrArg (dq[·]?) W_
theorem Jj (f:h->t) (l:List h) (a k:Nat) (x:h):(wB l a k x).map f=wB (l.map f) a k (f x):=by unfold wB;rw [b_,eG,qh,oT]
theorem Eh (b:a+d<dq.length):(wB dq a d dp).length=dq.length -d:=by
 unfold wB
 rw [bh,e_,fR,ey];exact Xa b
theorem P2 (f:dq[a]? =some dp):(wB dq a d dp).Sublist dq:=by
 unfold wB
 have e:dq=dq.take a++dp::dq.drop (a+1):=by
  obtain ⟨c,b⟩:=ew.mp f
  rw [<-b,<-fP c,GY]
 conv=>rhs;rw [e]
 refine UJ (zQ _ ?_) _
 rw [gZ,<-ig]
 exact List.drop_sublist _ _
theorem RX (u:Al i e b cX (gN b aN)) (n:∀f,eD b f->Ev i e f g (.ref a)/\Ev i e f D (.int d)/\Ev i e f aL (.int o)) (k:b a=some (.list j)) (x:d<=o) (w:o<=j.length) (p:j.length+aN.length<=fE) (s:∀c l,eD b c->Upd c l a (.list (j.take d++aN++j.drop o))->jo PG i ah e l ag):jo PG i (.cons (.Lv g D aL cX) ah) e b ag:=u _ λv c h t=>by
 refine jj v t λA m=>?_
 refine mV (n c h) λz r y=>?_
 refine z _ (r _ (y _ ?_))
 exact .mk (h _ _ k) m.at_ (λq=>(by have:=m.fr;rw [<-q,k] at this;contradiction)) (gC d) (gR.mpr x) w p (s c _ h pq)
theorem HZ (a:Tv i e b g true) (h:VE PG i D e b n):VE PG i (.ite g D aL) e b n:=a _ h
theorem Gg (j:Ev i e b g af) (d:Al i e b D n) (h:∀v a,eD b a->n v a->i l [af,v] a bw):VE PG i (.call (.cst l) (.cons g (.cons D .nil))) e b bw:=j _ (d _ λv a f c=>h v a f c)
variable {bJ:Nat}
theorem Kr (F:Buf b q o I ak p C aE) (hS:Ot b d o) (T:b aI=some (.list (js bc (bJ+1)))) (lg:1<=bJ) (B:bc+bJ<aE.length) (hf:∀j y,bc<=j->aE[j]? =some y->y.id=0) (S:∀kO lD lu kG,Buf b kO o I ak lD lu kG->kG.map (·.g)=(aE.map (·.g)).take bc++aB::(aE.map (·.g)).drop (bc+bJ+1)->(∀j y,bc+1<=j->kG[j]? =some y->y.id=0)->n .none kO):eE PG (a+7) (.fn 41) [.ref d,.ref aI,.int aB] q n:=by
 refine zR hS.sc λdx gd lk v w lC=>mV lC λq1 q2 q3=>?_
 have lj:=F.le _ _ q1
 have U:=F.len
 have lK:(js bc (bJ+1)).length=bJ+1:=by unfold js;rw [bb,fc]
 have kx:∀{s p C aE},Buf b s o I ak p C aE->∀c,c<aE.length->∃r y,C[c]? =some r/\(C.map AV.ref)[c]? =some (.ref r)/\pG s r y/\aE[c]? =some y:=λ{s p C aE} F c z=>by
  refine gi (F.at_ z) λr A D h3=>?_
  exact pf r (aE[c]) A D h3 (df z)
 refine gO [some (.ref d),some (.ref aI),some (.int aB),none,none,none,none,none,none] (c_ 2 _) rfl rfl (g8 (eO (a5 rfl) lj rfl) (g8 (eO (a5 rfl) F.obj rfl) ?_))
 have lF:∀{s aE c},aE[c]? =some s->gD aE c=s.g:=λ{s aE c} L=>by unfold gD;rw [L];rfl
 have Y:∀{X:Ak} {m:MM} {s:AS} {e:CE} {c j:Nat},eD b s->m[j]? =some (some (.ref aI))->Ev X m s e (.int c)->c<bJ+1->Ev X m s (.sub (.var j) e) (.int (bc+c:Nat)):=λhl hm he z=>fq (a5 hm) (hl _ _ T) he (vv z)
 have kF:∀{X:Ak} {m:MM} {s:AS} {j:Nat},eD b s->m[j]? =some (some (.ref aI))->Ev X m s (.bin .add (.sub (.var j) (.neg (.cst (.int 1)))) (.cst (.int 1))) (.int (bc+bJ+1:Nat)):=λhl hm=>by
  have:=hl _ _ T
  rw [p7] at this
  exact ia (bZ:=((bc+bJ+1:Nat):Int)) (z4 (a5 hm) this) dt rfl
 have ky:(eQ (bJ+1)).length<=fE:=by rw [fc];unfold fE;exact a_ (a_ (nS (c4 (c_ _ _) B)) U) (by decide)
 refine je (Gg (eO (a5 rfl) lj rfl) (tA (dq:=eQ (bJ+1)) (dE:=λc=>sk (bc+c)) (λc=>.int (gD aE (bc+c))) ky (a5 rfl) (F.le _ _ T) λc z s1 Z=>?_) λv s1 Z K=>?_)
 .refine nV (kx F (bc+c) (by have:=eU.mp z;exact c4 (d5 (eX this) _) B)) λr y e1 e2 kl e4=>?_;obtain ⟨kJ,e3⟩:=kl
  exact ei [none,some (.int (bc+c:Nat)),some (.ref ak)] rfl (jG (eO (fq (a5 rfl) (Z _ _ F.lst) (a5 rfl) e2) (Z _ _ e3) (by rw [lF e4];rfl)) rfl)
 refine jj v K λcg og=>?_
 have kW:=og.at_
 rw [show (eQ (bJ+1)).map (λc=>AV.int (gD aE (bc+c)))=((eQ (bJ+1)).map λc=>gD aE (bc+c)).map .int by rw [er];rfl] at kW
 refine NJ (a:=a) ((q2.le F.le).le Z) kW (by rw [bb,fc];exact fg lg) (by rw [bb];exact ky) _ λv s2 l2 K=>?_
 subst K
 have kH:=F.grow (b4 Z l2)
 refine FU (g6 dt (vE (a5 rfl) (Y (c:=0) kH.le rfl dt (fz bJ)) (kF kH.le rfl)) (HY (a:=a+1) kH (by show bc+0+2<=_;exact fg (d5 lg _)) (nS B) λs3 O kP kI=>?_))
 have kB:=kI.1
 refine je (HZ (f9 (fU (a5 rfl) dt (eq_str (by decide)))) ?_)
 refine jr (a5 rfl) kP.obj rfl rfl rfl gP (B3 (a:=a+3) kP λs4 ku=>?_)
 have lB:∀j y,bc<=j->O[j]? =some y->y.id=0:=λj y V hI=>by
  refine gi (kI.2 j y hI) λJ A _ D=>?_
  rw [D];exact hf j J V A
 refine yz (gw dt (oE (a5 rfl) (vE (a5 rfl) (a5 rfl) (a5 rfl))) (Eg (a:=a+1) ku.lst ku.inf (ku.le _ _ T) (by rw [kB];exact B) (kB▸U) lB)) λv s5 l5 K=>?_
 refine rY v K λN=>?_
 have kD:=ku.grow l5
 have kU:bc<O.length:=by rw [kB];exact pJ B
 refine nV (kx kD bc kU) λra g R a2 kl a4=>?_;obtain ⟨da,a3⟩:=kl
 refine g8 (fq (a5 rfl) kD.lst (Y (c:=0) kD.le rfl dt (fz bJ)) a2) ?_
 refine iq (a5 rfl _ (i8 (a5 rfl) a3 λs6 u6=>?_))
 have lA:=kD.upd (I':=⟨aB,g.cl,g.un,g.id,g.part,g.cnt⟩) R u6.ne ⟨da,u6.at_⟩
 refine iq (dt _ (i8 (a5 rfl) u6.at_ λs7 u7=>?_))
 have kn:=lA.upd (I':=⟨aB,g.cl,g.un,g.id,g.part,g.cnt⟩) R u7.ne ⟨da,u7.at_⟩
 rw [GD] at kn
 have lh:∀{s aE c},aE[c]? =some s->VP aE c=s.un:=λ{s aE c} L=>by unfold VP;rw [L];rfl
 have lz:(O.set bc ⟨aB,g.cl,g.un,g.id,g.part,g.cnt⟩).length=aE.length:=by rw [gI,kB]
 refine iq (Gf (n:=λv s=>∃u,v= .bool u/\eD s7 s) (uQ (λc=>VP (O.set bc ⟨aB,g.cl,g.un,g.id,g.part,g.cnt⟩) (bc+c)) (λc=>sk (bc+c)) (dq:=eQ (bJ+1)) (dE:=λc=>sk (bc+c)) ky (a5 rfl) (kn.le _ _ T) λc z s8 Q=>?_) (λx hx=>?_) (λs8 Q=>(ei _ rfl Q)) _ λv s8 Q K=>?_)
 .refine nV (kx kn (bc+c) (by have:=eU.mp z;rw [lz];exact c4 (d5 (eX this) _) B)) λr y e1 e2 kl e4=>?_;obtain ⟨kJ,e3⟩:=kl
  exact gq [none,some (.int (bc+c:Nat)),some (.ref ak)] rfl (tw (λn S=>eO (fq (a5 rfl) (Q _ _ kn.lst) (a5 rfl) e2) (Q _ _ e3) rfl _ (by rw [lh e4] at S;exact ⟨_,.bool _,lh e4▸S _ (ec _)⟩))) (λ_ s9 _=>jG (a5 rfl) rfl)
 .refine iQ x (ck.mp hx) λc _=>?_;exact .int _ _
 refine jj v K λu _=>?_
 have lr:=kn.grow Q
 refine i8 (a5 rfl) (Q _ _ u7.at_) λs9 u9=>?_
 have kX:=lr.upd (I':=⟨aB,g.cl,u,g.id,g.part,g.cnt⟩) R u9.ne ⟨da,u9.at_⟩
 rw [GD] at kX
 refine ki (aw:=true) (f9 (fU (a5 rfl) dt (eq_str (by decide)))) (λ_=>?_) (by intros;contradiction)
 refine iq (a5 rfl _ (i8 (a5 rfl) u9.at_ λlM kQ=>iq (dt _ (i8 (a5 rfl) kQ.at_ λlJ kT=>iq (a5 rfl _ (i8 (a5 rfl) kT.at_ λlL kN=>s_end ?_))))))
 have G:=kX.upd (I':=⟨aB,g.cl,u,p+1,0,N⟩) R (λo hb=>(kN.ne o hb).trans ((kT.ne o hb).trans (kQ.ne o hb))) ⟨da,kN.at_⟩
 rw [GD] at G
 have M:Bs bc aE (O.set bc ⟨aB,g.cl,u,p+1,0,N⟩):=(kI.one bc).set _
 have lI:(O.set bc ⟨aB,g.cl,u,p+1,0,N⟩)[bc]? =some ⟨aB,g.cl,u,p+1,0,N⟩:=GH kU
 generalize O.set bc ⟨aB,g.cl,u,p+1,0,N⟩=kM at*
 have kq:C.length=aE.length:=F.inf.1
 have lx:((eQ (bJ+1)).filter λc=>decide (c=0)).map (λc=>AV.ref ((C[bc+c]?).getD 0))=[.ref ra]:=by
  rewrite [uf,k8 rfl,jA.mpr λc z=>?_]
  .show [AV.ref ((C[bc]?).getD 0)]=_
   rw [R];rfl
  .refine iQ c (ck.mp z) λj _=>?_
   exact λW=>absurd (of_decide_eq_true W) (tW j)
 have lG:xy bc (bc+bJ+1)=(eQ (bJ+1)).map λc=>AV.int (bc+c:Nat):=by unfold xy;rw [fI,ib]
 refine RX (a:=ak) (d:=bc) (o:=bc+bJ+1) (aN:=[.ref ra]) (j:=C.map .ref) (lx▸tx (λc=>decide (c=0)) (λc=>AV.ref ((C[bc+c]?).getD 0)) (eQ (bJ+1)) (λc=>AV.int (bc+c:Nat)) ky (n:=λv _=>v= .pT bc (bc+bJ+1:Nat) 1) (jG (vw (a:=a+5) (Y (c:=0) G.le rfl dt (fz bJ)) (kF G.le rfl) (by exact a_ (eA (c4 (eg _ _) B)) (a_ U (by decide))) (by exact a_ (nS B) (a_ U (by decide)))) rfl) (λv kC _ e=>(ei .pT (λ_ _=>trivial) (λn S=>by rw [e];exact tu (by rw [lG];exact S)))) λc z kC H=>?_)
  (λkC H=>(iz (eO (a5 rfl) (H _ _ G.obj) rfl) (Y (c:=0) (b4 G.le H) rfl dt (fz bJ)) (kF (b4 G.le H) rfl))) G.lst (by exact fY (eg _ _)) (by rw [bb,kq];exact B) (by rw [bb,kq];unfold fE;exact a_ (fg U) (by decide)) λkC kV H kz=>ei _ (ec _) ?_
 .have ly:=eU.mp z
  refine nV (kx G (bc+c) (by rw [M.1];exact c4 (d5 (eX ly) _) B)) λr y e1 e2 _ _=>?_
  have lq:=b4 G.le H
  have hb:(decide (((bc+c:Nat):Int)=((bc+0:Nat):Int))||!true)=decide (c=0):=by
   rw [wQ,Bool.or_false]
   exact decide_eq_decide.mpr ⟨λL=>Vi L,λL=>by rw [L]⟩
  refine gq [none,some (.int (bc+c:Nat)),some (.ref aI),some (.ref ak)] rfl (hb▸tw (pv (MS (f9 (fU (a5 rfl) (Y (c:=0) lq rfl dt (fz bJ)) (eq_int rfl))) λ_=>Ed (aw:=true) (a5 rfl) (a5 rfl) (lq _ _ T) (.int _ _) (λx hx=>?_) ⟨λ_=>ck.mpr ⟨c,z,rfl⟩,λ_=>rfl⟩))) (λ_ lH lE=>jG (fq (a5 rfl) (lE _ _ (H _ _ G.lst)) (a5 rfl) (by rw [e2,e1];rfl)) rfl)
  refine iQ x (ck.mp hx) λj _=>?_
  exact .int _ _
 have E:=G.grow H
 have kY:bc+bJ<C.length:=kq▸B
 have km:bc+bJ<kM.length:=by rw [M.1];exact B
 have kZ:(wB C bc bJ ra).Sublist C:=P2 R
 refine S kV (p+1) (wB C bc bJ ra) (wB kM bc bJ ⟨aB,g.cl,u,p+1,0,N⟩) ⟨kz.le E.le E.fw,(kz.ne o λW=>by have A:=E.obj;rw [W,E.lst] at A;(injection A;contradiction)).trans E.obj,?_,⟨?_,λc r z=>?_⟩,E.nd.sublist kZ,E.fb,E.fw,λr hr=>E.fr r (kZ.subset hr),?_⟩ ?_ λj y V hI=>?_
 .rw [kz.at_,Jj];unfold wB;rw [eC];rfl
 .rw [Eh kY,Eh km,kq,M.1]
 .rw [xQ (eA (c4 (eg _ _) kY))] at z
  rw [xQ (eA (c4 (eg _ _) km))]
  have kK:∀{r y},pG kC r y->pG kV r y:=λ{r y} ⟨kJ,hd⟩=>⟨kJ,(kz.ne r λW=>by rw [W,E.lst] at hd;(injection hd;contradiction)).trans hd⟩
  by_cases A:c<bc
  .rw [if_pos A] at z⊢
   refine eS (E.inf.2 c r z) λy g1 g2=>?_
   exact ei y g1 (kK g2)
  .rw [if_neg A] at z⊢
   by_cases D:c=bc
   .rw [if_pos D] at z⊢
    (injection z with z;subst z)
    exact ei _ rfl (kK ⟨da,H _ _ kN.at_⟩)
   .rw [if_neg D] at z⊢
    refine eS (E.inf.2 (c+bJ) r z) λy g1 g2=>?_
    exact ei y g1 (kK g2)
 .rw [Eh km,M.1];exact a_ (jQ _ _) U
 .have e5:(wB kM bc bJ ⟨aB,g.cl,u,p+1,0,N⟩).map (·.g)=wB (aE.map (·.g)) bc bJ aB:=by
   rw [Jj]
   refine yZ λj=>?_
   rw [xQ (by rw [bb];exact eA (c4 (eg _ _) km)),xQ (by rw [bb];exact eA (c4 (eg _ _) B))]
   by_cases A:j<bc
   .rw [if_pos A,if_pos A,M.get (rz A)]
   .rw [if_neg A,if_neg A]
    by_cases D:j=bc
    .rw [if_pos D,if_pos D]
    .rw [if_neg D,if_neg D,M.get (Vj A D)]
  rw [e5];rfl
 .rw [xQ (by exact eA (c4 (eg _ _) km)),if_neg (by exact Nat.not_lt_of_gt V),if_neg (by exact Nat.ne_of_lt' V)] at hI
  refine gi (M.2 (j+bJ) y (by exact oy (eh V (eg _ _))) hI) λJ g1 _ g3=>?_
  rw [g3];exact hf _ J (by exact a_ (eA V) (eg _ _)) g1
theorem Ks (q:Ev i e b g af) (m:Ev i e b D b7) (p:Al i e b aL bw) (h:∀w a,eD b a->bw w a->Cl i l [af,b7,w] a n):Al i e b (.call (.cst l) (.cons g (.cons D (.cons aL .nil)))) n:=
 λQ j=>q _ (m _ (p _ λw a c o=>h w a c o Q λx d k f=>j x d (b4 c k) f))
theorem Ot.le (h:Ot b a d) (c:eD b q):Ot q a d:=zR h.sc λe m l v w k=>mV k λi f j=>Ig j λn x y g=>⟨e,m,l,v,w,c _ _ i,f.le c,n,x,y,c _ _ g⟩
variable {bU:Nat}
theorem H0 (g:Buf b q o I ak p C aE) (hS:Ot b d o) (ht:b aI=some (.inst 5 bJ [(54,.ref bc)])) (hE:kj b bc aK) (hT:vn (strip aK) 5) (x:bU<aE.length) (Y:∀j A,bU<=j->aE[j]? =some A->A.id=0) (hN:∀E,Buf b E o I ak p C aE->(((strip aK).lookup (gD aE bU)).getD []).find? (λr=>jy ((aE.map (·.g)).drop (bU+1)) r.1)=none->n (.int (-1)) E) (hY:∀E X W F f,Buf b E o I ak X W F->(((strip aK).lookup (gD aE bU)).getD []).find? (λr=>jy ((aE.map (·.g)).drop (bU+1)) r.1)=some f->F.map (·.g)=(aE.map (·.g)).take bU++f.2::(aE.map (·.g)).drop (bU+f.1.length+1)->(∀j A,bU+1<=j->F[j]? =some A->A.id=0)->n (.int (bU+1:Nat)) E):
 eE PG (a+10) (.fn 42) [.ref d,.ref aI,.int bU] q n:=by
 refine zR hS.sc λkP gd lk y kO kN=>mV kN λq1 q2 q3=>?_
 obtain ⟨ra,a1,a2,da,a3⟩:=g.at_ x
 have kD:gD aE bU=aE[bU].g:=by unfold gD;rw [df x];rfl
 have hG:(aE.map (·.g))[bU]? =some aE[bU].g:=by rw [ed,df x];rfl
 rw [kD] at hN hY
 refine gO [some (.ref d),some (.ref aI),some (.int bU),none,none,none,none,none] (c_ 2 _) rfl rfl (g8 (eO (eO (a5 rfl) (g.le _ _ q1) rfl) g.obj rfl) (g8 (l:=.int aE[bU].g) (eO (fq (a5 rfl) g.lst (a5 rfl) a2) a3 rfl) ?_))
 refine rd (CV (hE.le g.le) (eO (a5 rfl) (g.le _ _ ht) rfl) (a5 rfl)) λy s1 T L=>?_
 refine jj y L λrl kn=>?_
 have kC:∀f∈((strip aK).lookup aE[bU].g).getD [],f.1.length<=3:=λf M=>by
  induction h:(strip aK).lookup aE[bU].g with
  |none=>rw [h] at M;contradiction
  |some l=>
   rw [h] at M
   exact (hT.rows (aE[bU].g,l) (by refine i5 (gS.mp h) λT N e _=>?_;rw [e];simp) f M).len
 generalize ((strip aK).lookup aE[bU].g).getD []=kx at*
 refine iG (.list rl _) kx ie (λn=>gH kn) (λD m s=>eD s1 s/\(∀f∈D,jy ((aE.map (·.g)).drop (bU+1)) f.1=false)/\∃V w6 Q,m=[some (.ref d),some (.ref aI),some (.int bU),some (.ref ak),some (.int aE[bU].g),V,w6,Q]) (vb (ec _) (by intros;contradiction) _ _ _ rfl) (λ_ _ _ h=>h.1 _ _ kn) ?_ ?_
 .intro D f r' m s2 hD kK K hK;refine ve m kK λN O V w6 Q=>?_
  have B:=g.grow (b4 T N)
  have U:=kC f (mid hD)
  have kz:jy ((aE.map (·.g)).drop (bU+1)) f.1=true->kx.find? (λr=>jy ((aE.map (·.g)).drop (bU+1)) r.1)=some f:=λh=>mT.mpr (Df h D r' hD (λkl x=>by rw [O kl x];rfl))
  refine ei [some (.ref d),some (.ref aI),some (.int bU),some (.ref ak),some (.int aE[bU].g),some (tI f.1),some (.int f.2),Q] rfl (ki (f9 (AY (bS:=[]) (a5 rfl) (g5 gP))) (λu=>?_) λu=>s_end ?_)
  .have u:=of_decide_eq_true u
   obtain ⟨kQ,b1,b2,db,b3⟩:=B.at_ x
   refine iq (a5 rfl _ (i8 (fq (a5 rfl) B.lst (a5 rfl) b2) b3 λs3 u3=>iM (ia (bZ:=((bU+1:Nat):Int)) (a5 rfl) dt rfl) (ei _ (ec _) ?_)))
   refine hY s3 p C (aE.set bU ⟨f.2,aE[bU].cl,aE[bU].un,aE[bU].id,aE[bU].part,aE[bU].cnt⟩) f (B.upd b1 u3.ne ⟨db,u3.at_⟩) (kz (by rw [u];exact gK.mpr uk)) ?_ λj A hj hI=>?_
   .rw [u,GF,List.set_eq_take_append_cons_drop,if_pos (by rw [bb];exact x)];rfl
   .rw [iH (rz hj)] at hI
    exact Y j A (nT hj) hI
  .have u:=of_decide_eq_false u
   have kJ:1<=f.1.length:=oG.mpr u
   refine yz (Ks (n:=λy s=>(f.1<+:(aE.map (·.g)).drop (bU+1)/\∃z,y= .ref z/\i0 s2 s z (.list (js bU (f.1.length+1))))\/(¬f.1<+:(aE.map (·.g)).drop (bU+1)/\y= .none)) (a5 rfl) (a5 rfl) (gw dt (iJ (l:=tI (aE[bU].g::f.1)) (λn H=>AN (g5 (iJ (a5 rfl))) (a5 rfl) (by rw [bb];unfold fE;exact a_ (d5 U 1) (by decide)) _ H)) (HV (a:=a+6) (by unfold fE;exact a_ (fg U) (by decide))))
    λy s3 l3 L=>L▸uP (HX (a:=a) (B.grow l3) hS hG (a_ U (by decide))) λy s4 _ h=>h.imp (λzf=>S8 zf λkl z o kM=>(tP kl z o (kM.base l3))) id) λy s4 R L=>?_
   have kq:=B.grow R
   rcases L with ⟨S,z,rfl,Z⟩ |⟨S,rfl⟩
   .have kB:bU+f.1.length<aE.length:=by
     have:=S.length_le
     rw [ey,bb] at this
     exact Xb x this
    refine iK (tE B.le R Z) λb0 b1=>?_
    have kF:=B.with R Z
    have ku:=gW b z (.list (js bU (f.1.length+1)))
    refine pF (aw:=true&&true) (DU (aw:=true) (pv (f9 (fU (a5 rfl) dt λn H=>.Te (by (repeat intro _);contradiction) (by (repeat intro _);contradiction) H))) λ_ s5 G=>rO (gw dt (iL (a5 rfl) (a5 rfl)) (B2 (a:=a+4) (kq.grow G).lst (kq.grow G).inf (G _ _ Z.at_) kB Y))) λs5 G=>⟨λ_=>?_,(by intros;contradiction)⟩
    generalize va b z _=sb at*
    refine FU (g6 dt (vE (a5 rfl) (a5 rfl) (a5 rfl)) (Kr (a:=a+2) (kF.grow G) (hS.le b0) ku kJ kB Y λs6 X W F ky hg kI=>?_))
    have km:=ky.le _ _ ku
    rw [p7] at km
    exact iM (ia (bZ:=((bU+1:Nat):Int)) (ia (bZ:=((bU+f.1.length+1:Nat):Int)) (z4 (a5 rfl) km) dt rfl) (pw (a:=a+8) (a5 rfl)) (by show some (((bU+f.1.length+1:Nat):Int) - (f.1.length:Nat))=_;exact congrArg some Xc)) (ei _ (ec _) (hY s6 X W F f (ky.base b0) (kz (gK.mpr S)) hg kI))
   .refine ki (aw:=false&&false) (yv (aw:=false) (bN:=false) (f9 (fU (a5 rfl) dt λn H=>.Td H)) (λh=>nomatch h)) (by intros;contradiction) λ_=>hK _ _ (vb (b4 N R) (λkH J=>?_) _ _ _ rfl)
    rcases eF.mp J with J |J
    .exact O kH J
    .rw [dk.mp J,nL]
     exact λh=>S (gK.mp h)
 .intro m s2 kG;refine ve m kG λN O V w6 Q=>?_
  exact iM (wo (p:=1) dt) (ei _ (ec _) (hN s2 (g.grow (b4 T N)) (jL.mpr λf M h=>by rw [O f M] at h;contradiction)))
noncomputable def o6 (T:Table) (s:g9):Nat×Int:=match ((T.lookup (s.headD 0)).getD []).find? (λr=>jy (s.drop 1) r.1) with
 |some q=>(1+q.1.length,q.2)
 |none=>(1,s.headD 0)
theorem Gh (T:Table) (b:0<av.length):(o6 T av).1<=av.length/\0<(o6 T av).1:=by
 unfold o6
 induction h:((T.lookup (av.headD 0)).getD []).find? (λr=>jy (av.drop 1) r.1) with
 |none=>exact ⟨b,j9⟩
 |some q=>
  have a:=(gK.mp (BC (p:=λr:Row=>jy (av.drop 1) r.1) h)).length_le
  rw [ey] at a
  exact ⟨by show 1+q.1.length<=_;exact n1 (eY 1 _) (zz b a),by show 0<1+q.1.length;exact eh Qg (eg _ _)⟩
noncomputable def zq (st:AS) (b row:Nat) (rs:List Nat):AS:=λa=>if a=b\/a=row\/a∈rs then none else st a
theorem NK (h:b o=some ay) (i:eD b q) (g:b a=none) (f:b d=none) (e:∀r∈C,b r=none):zq q a d C o=some ay:=by
 refine (if_neg λc=>?_).trans (i _ _ h)
 rcases c with rfl |rfl |c
 .rw [g] at h;contradiction
 .rw [f] at h;contradiction
 .rw [e _ c] at h;contradiction
theorem Buf.hide (h:Buf b q a d o p C aE):Buf (zq q a o C) q a d o p C aE/\∀x c,q x=some c->(∀u,c≠.list u)->(∀g f,c≠.inst 1 g f)->(∀g f,c≠.inst 2 g f)->zq q a o C x=some c:=by
 refine ⟨⟨λx c e=>?_,h.obj,h.lst,h.inf,h.nd,if_pos (.inl rfl),if_pos (.inr (.inl rfl)),λr t=>if_pos (.inr (.inr t)),h.len⟩,λx c e s n m=>(if_neg λj=>?_).trans e⟩
 .unfold zq at e
  by_cases k:x=a\/x=o\/x∈C
  .rw [if_pos k] at e;contradiction
  .rwa [if_neg k] at e
 .rcases j with rfl |rfl |j
  .exact m _ _ (oi e h.obj)
  .exact s _ (oi e h.lst)
  .obtain ⟨i,l⟩:=eZ.mp j
   obtain ⟨I,_,g,v⟩:=h.inf.2 i x l
   exact n _ _ (oi e v)
theorem NL (r:zj b d []) (h:∀g e,eD b e->Bo e g->n (.ref g) e):eE PG (a+4) (.cls 9) [.ref d,l,af] b n:=by
 refine zZ rfl λi q B n1=>gO [some (.ref i),some (.ref d),some l,some af,some .none,some .none] (c_ 2 _) rfl rfl ?_
 refine iq (a5 rfl _ (i8 (a5 rfl) n1.at_ λw u2=>iq (a5 rfl _ (i8 (a5 rfl) u2.at_ λv u3=>iq (a5 rfl _ (i8 (a5 rfl) u3.at_ λA f=>iq (HZ (f9 (fU (a5 rfl) dt λn c=>.Vo c)) (A9 λu s5 o=>i8 (a5 rfl) (o.le _ _ f.at_) λz m=>iq (HZ (f9 (fU (a5 rfl) dt λn c=>.Vo c)) (A9 λx y j=>i8 (a5 rfl) (j.le _ _ m.at_) λt k=>(gq _ (ec _) rfl ?_)))))))))))
 have s:=f.le (u3.le (u2.le n1.le n1.fr) n1.fr) n1.fr
 have p:=k.le (b4 (m.le (b4 s o.le) n1.fr) j.le) n1.fr
 exact h i t p ⟨q,d,l,af,_,_,k.at_,r.le p⟩
theorem Ei (h:∀g e,eD b e->Bo e g->n (.ref g) e):Cl (eE PG (a+5)) (.fn 71) [] b n:=by
 refine jO [] (c_ _ _) rfl rfl λy d R u=>?_
 (injection d with d;subst d)
 refine AR (F_ (jJ (A9 λm A n1=>tq (c_ 4 a) λc1 p t _ _=>?_)))
 have f:=fM (ay:=.inst 0 p [(33,.ref m)]) t
 refine jJ (A9 λs x i=>tq (c_ 4 a) λz q r _ _=>?_)
 have c:=fM (ay:=.inst 0 q [(33,.ref s)]) r
 refine si gP λc5 s5 j=>NL (a:=a) ⟨p,m,j.le _ _ (c.le _ _ (i.le _ _ f.at_)),j.le _ _ (c.le _ _ (i.le _ _ (f.le _ _ n1.at_)))⟩ λg l v w=>?_
 have k:eD b l:=b4 n1.le (b4 f.le (b4 i.le (b4 c.le (b4 j.le v))))
 exact u _ _ _ k (h g l k w)
theorem Kt (h:∀i e w f,eD b f->f i=some (.inst 4 e [(27,.ref d),(50,.ref o),(51,l),(52,.ref I),(36,.int 1),(53,.int 0),(32,w)])->n (.ref i) f):eE PG (a+4) (.cls 4) [.ref d,.ref o,l,.ref I,.int 1] b n:=by
 refine zZ rfl λm e B n1=>gO [some (.ref m),some (.ref d),some (.ref o),some l,some (.ref I),some (.int 1),some (.int 0)] (c_ 2 _) rfl rfl ?_
 refine iq (a5 rfl _ (i8 (a5 rfl) n1.at_ λv u2=>iq (a5 rfl _ (i8 (a5 rfl) u2.at_ λu u3=>iq (a5 rfl _ (i8 (a5 rfl) u3.at_ λA j=>iq (a5 rfl _ (i8 (a5 rfl) j.at_ λs5 p=>iq (a5 rfl _ (i8 (a5 rfl) p.at_ λz q=>iq (a5 rfl _ (i8 (a5 rfl) q.at_ λy k=>iq (si (iJ dt) λc x r=>i8 (a5 rfl) (r.le _ _ k.at_) λs g=>(gq _ (ec _) rfl ?_))))))))))))))
 have t:=k.le (q.le (p.le (j.le (u3.le (u2.le n1.le n1.fr) n1.fr) n1.fr) n1.fr) n1.fr) n1.fr
 exact h m e _ s (g.le (b4 t r.le) n1.fr) g.at_
theorem Gi (c:Buf b q d o I p C aE):Cl (eE PG (a+3)) (.fn 10) [.ref d] q (gN q ((aE.map (·.g)).map .int)):=by
 refine jO [some (.ref d)] (c_ _ _) rfl rfl λu g R n=>?_
 injection g
 refine iK c.zip λi h=>?_
 have f:=c.lst
 rw [i] at f
 have k:(aE.map (·.g)).map AV.int=(C.zip aE).map λe=>.int e.2.g:=by
  rw [<-N7 (l₁:=C) (l₂:=aE) (gu c.inf.1.symm),er,er,N7 (gu c.inf.1.symm)];rfl
 refine sh (tA (λe:Nat×Inf=>.int e.2.g) ?_ (eO (a5 rfl) c.obj rfl) f λe m x j=>(ei [none,some (.ref e.1)] rfl ?_)) λv s l r=>n _ _ _ l (k▸r)
 .rw [OD,c.inf.1,GW];exact a_ c.len (by unfold fE;decide)
 .obtain ⟨w,t⟩:=h e m
  exact jG (eO (a5 rfl) (j _ _ t) rfl) rfl
noncomputable def Ud (g cl mk:Int):List (Nat×AV):=MQ (.int g) (.int cl) (.int mk)
noncomputable def Su (p:Nat×Int):Inf:=⟨p.2,p.1,false,0,0,0⟩
noncomputable def Gj (gs:List Int):List (Nat×Int):=gs.mapIdx λi g=>(i,g)
theorem NM {c:AV} (h:VE PG i g e b λv b=>i l [af,b7,c,v] b n):VE PG i (.call (.cst l) (.cons (.cst af) (.cons (.cst b7) (.cons (.cst c) (.cons g .nil))))) e b n:=h
theorem NN (c:Ev i e b g af) (h:VE PG i D e b λd b=>VE PG i aL e b λf b=>VE PG i cX e b λa b=>i l [af,d,f,a,b7] b n):VE PG i (.call (.cst l) (.cons g (.cons D (.cons aL (.cons cX (.cons (.cst b7) .nil)))))) e b n:=c _ h
theorem yN (ht:b d=some (.inst 5 I [(54,.ref o)])) (hE:kj b o aK) (hT:vn (strip aK) 5) (hg:b ak=some (.list (a8.map .int))) (hl:a8.length<=10000):
 Cl (eE PG (a+11)) (.fn 76) [.ref d,.ref ak] b (gN b ((iF (o6 (strip aK)) a8.length a8).map .int)):=by
 refine jO [some (.ref d),some (.ref ak),none,none,none,none,none,none] (c_ _ _) rfl rfl λk' kF R hR=>?_
 (injection kF with kF;subst kF)
 have lX:∀{F:MM} {s:AS},eD b s->F[1]? =some (some (.ref ak))->Ev (eE PG (a+10)) F s (.call (.cst (.bi 0)) (.cons (.var 1) .nil)) (.int a8.length):=λlC hm=>by
  have:=jd (a:=a+9) (a5 hm) (f7 (lC _ _ hg))
  rwa [bb] at this
 refine je (jJ (zY (jJ (lX (ec _) rfl _ (tB (a:=a+9) (a_ hl (by decide)) (tv .pT (eQ a8.length) (λm5=>.int (m5:Nat)) (λQ=>p3) (λD kq s=>eD b s/\∃f:List Nat,kq=f.map .ref/\f.length=D.length/\f.Nodup/\(∀r∈f,b r=none)/\∀(i:Nat) r,f[i]? =some r->∃g I,a8[i]? =some g/\s r=some (.inst 1 I (Ud g i 0))) ⟨(ec _),[],rfl,rfl,eI,(by intros;contradiction),(by intros;contradiction)⟩ (λ_ _ _ _=>trivial) ?_ ?_))))))
 .intro D y r' kq s hD lN K W;refine S5 kq lN λO f ly=>wW ly λL Z Y h4=>?_
  refine Qm y (rn hD) λE=>?_
  have lL:(a8.map AV.int)[D.length]? =some (.int a8[D.length]):=by rw [ed,df E];rfl
  refine ei [none,some (.int D.length),some (.ref ak)] rfl (Eb (g6 dt (vE dt (fq (a5 rfl) (O _ _ hg) (a5 rfl) lL) (a5 rfl)) (MR (c_ 4 _) λkH I fa fd _=>?_)))
  have na:=fM (ay:=.inst 1 I (MQ (.int a8[D.length]) (.int D.length) (.int 0))) fa
  refine ⟨by rw [bb,L];exact eh E (a_ hl (by unfold fE;decide)),W _ _ ⟨(b4 O na.le),(f++[kH]),(by rw [b_];rfl),(by rw [bh,bh,L];rfl),?_,?_,(λi r l=>?_)⟩⟩
  .refine eP.mpr (iz Z (eT.mpr ⟨ee,eI⟩) (λG z y E q=>?_))
   refine j_ (eZ.mp z) λi l=>?_
   refine i5 (h4 i G l) λg V _ U=>?_
   rw [q,dk.mp E] at U
   exact na.ne U rfl
  .exact λG z=>(eF.mp z).elim (Y G) λz=>by rw [dk.mp z];exact jE O fa.1
  .rcases j' i f.length with ku |ku
   .rw [eN ku] at l
    refine i5 (h4 i r l) λg V U h6=>?_
    exact nA g V U (na.le _ _ h6)
   .rw [fj ku] at l
    have h0:i -f.length=0:=iZ.mp (gy l)
    rw [h0] at l
    (injection l with l;subst l)
    have m4:i=D.length:=by rw [<-L];exact ir (ui.mp h0) ku
    rw [m4]
    exact nA _ I (df E) na.at_
 intro kq s1 s2 C lD X;obtain ⟨O,f,rfl,L,Z,Y,h4⟩:=lD
 rw [fc] at L
 refine Hy (c_ 4 _) λA bx fb m7 _=>?_
 have T:=fM (ay:=.inst 2 bx [(28,.ref C),(44,.bool false),(45,.int 0),(46,.int 0)]) fb
 generalize va s2 A _=s3 at*
 have l3:eD b s3:=b4 O (b4 X.le T.le)
 have kV:b C=none:=jE O X.fr
 have kX:b A=none:=jE (b4 O X.le) T.fr
 refine oR (eO (a5 rfl) T.at_ rfl) (iG (.list C _) f .ref (λQ=>gH (T.le _ _ X.at_)) (λD F s=>eD b s/\s C=some (.list (f.map .ref))/\s A=some (.inst 2 bx [(28,.ref C),(44,.bool false),(45,.int 0),(46,.int 0)])/\(∀(i:Nat) r,f[i]? =some r->∃g I,a8[i]? =some g/\s r=some (.inst 1 I (Ud g i (if i<D.length then 1 else 0))))/\∃w3,F=[some (.ref d),some (.ref ak),some (.ref A),w3,none,none,none,none])
  ⟨l3,(T.le _ _ X.at_),T.at_,(λi r l=>i5 (h4 i r l) λg I U h6=>⟨g,I,U,T.le _ _ (X.le _ _ h6)⟩),_,rfl⟩ (λ_ _ _ h=>h.2.1) ?_ ?_)
 .intro D y r' F s4 hD lI K W;refine OJ F lI λl4 q1 q2 q3 w3=>?_
  have E:f[D.length]? =some y:=by rw [hD];simp
  refine i5 (q3 D.length y E) λg lR g1 J=>?_
  refine ei _ rfl (iq (dt _ (i8 (a5 rfl) J λs5 u5=>W _ _ ⟨u5.le l4 (Y y (fh E)),(u5.ne C λq=>by have:=oi q1 (q▸J);contradiction).trans q1,(u5.ne A λq=>by have:=oi q2 (q▸J);(injection this;contradiction)).trans q2,λi r l=>?_,_,rfl⟩)))
  rw [bh,i9]
  by_cases kD:i=D.length
  .rw [kD] at l⊢
   rw [E] at l;obtain rfl:=d3 l
   exact nA g lR g1 (by rw [if_pos (fG _)];exact u5.at_)
  .refine i5 (q3 i r l) λg' V g3 g4=>?_
   refine nA g' V g3 ((u5.ne r λq=>kD (yG Z l (q▸E))).trans ?_)
   rw [g4]
   by_cases kx:i<D.length
   .rw [if_pos kx,if_pos (jq kx)]
   .rw [if_neg kx,if_neg (show ¬i<D.length+1 from λq=>(ED.mp q).elim kx kD)]
 intro F s4 lT;obtain ⟨l4,q1,q2,q3,w3,rfl⟩:=lT
 have u:Buf b s4 A bx C 0 f ((Gj a8).map Su):=by
  have kK:((Gj a8).map Su).length=a8.length:=by unfold Gj;rw [bb,xX]
  refine ⟨l4,q2,q1,⟨by rw [kK,L],λi r l=>?_⟩,Z,kX,kV,Y,by rw [kK];exact hl⟩
  refine i5 (q3 i r l) λg V g1 J=>?_
  rw [if_pos (gy l)] at J
  refine ⟨Su (i,g),?_,V,J⟩
  unfold Gj
  rw [ed,Ib,g1];rfl
 have m6:((Gj a8).map Su).map (·.g)=a8:=by
  refine yZ λj=>?_
  unfold Gj
  rw [er,ed,Ib,Option.map_map]
  exact Option.map_id_fun'▸rfl
 have lu:∀(j:Nat) B,((Gj a8).map Su)[j]? =some B->B.id=0:=λj B hI=>by
  refine iQ B (ck.mp (fh hI)) λp _=>?_;rfl
 generalize (Gj a8).map Su=lH at*
 refine je (NM (si (iJ (a5 rfl)) λc5 s5 n5=>Hx (c_ 4 _) λlk dy fl _ _=>?_))
 have n6:=fM (ay:=.inst 3 dy [(37,Kp),(47,.int 0),(48,.int 0),(49,.ref c5)]) fl
 generalize va s5 lk _=s6 at*
 refine je (NN (a5 rfl) (g6 dt gP (Ei (a:=a+5) (n:=λkW s=>∃g,kW= .ref g/\eD s6 s/\Bo s g) (λg s7 l7 hg=>(gq g rfl l7 hg)) _ ?_)))
 intro _ s7 l7 lV;obtain ⟨gd,rfl,_,lO⟩:=lV
 refine si (iJ (a5 rfl)) λc8 s8 n8=>a5 rfl _ (Kt (a:=a+6) λsc lG w s9 l9 lA=>?_)
 have m3:eD s4 s9:=b4 n5.le (b4 n6.le (b4 l7 (b4 n8.le l9)))
 have kQ:=u.grow m3
 refine iK kQ.hide λlM kl=>?_
 have lE:=lO.le (b4 n8.le l9)
 have lZ:=b4 l7 (b4 n8.le l9) _ _ n6.at_
 have lU:∀G km,b G=some km->zq s9 A C f G=some km:=λG km kz=>NK kz kQ.le kX kV Y
 have hS:Ot (zq s9 A C f) sc A:=by
  obtain ⟨gx,cd,kH,b',c,d',g1,cx,lP,J,g3⟩:=lE
  exact ⟨lG,gd,lk,_,w,kl _ _ lA (by (repeat intro _);contradiction) (by intros;intro h;first |contradiction |(injection h;contradiction)) (by intros;intro h;first |contradiction |(injection h;contradiction)),⟨gx,cd,kH,b',c,d',kl _ _ g1 (by (repeat intro _);contradiction) (by intros;intro h;first |contradiction |(injection h;contradiction)) (by intros;intro h;first |contradiction |(injection h;contradiction)),cx,lP,kl _ _ J (by (repeat intro _);contradiction) (by intros;intro h;first |contradiction |(injection h;contradiction)) (by intros;intro h;first |contradiction |(injection h;contradiction)),kl _ _ g3 (by (repeat intro _);contradiction) (by (repeat intro _);contradiction) (by (repeat intro _);contradiction)⟩,dy,_,_,kl _ _ lZ (by (repeat intro _);contradiction) (by intros;intro h;first |contradiction |(injection h;contradiction)) (by intros;intro h;first |contradiction |(injection h;contradiction))⟩
 have ky:eD b (zq s9 A C f):=λG km kz=>lU G km kz
 have lY:=ky _ _ ht
 have lx:=hE.le ky
 generalize zq s9 A C f=sH at*
 have lW:∀s:List Int,0<s.length->0<(o6 (strip aK) s).1:=λs hs=>(Gh (strip aK) hs).2
 refine g8 (l:=.int (0:Nat)) dt (oM a8.length (λN F s=>∃(ll:Int) (f:List Nat) (H:List Inf) (p:Nat) (t:List Int) (w7:Option AV),Buf sH s A bx C ll f H/\H.map (·.g)=t++a8.drop p/\(∀j B,t.length<=j->H[j]? =some B->B.id=0)/\p<=a8.length/\N=a8.length -p/\t++iF (o6 (strip aK)) (a8.length -p) (a8.drop p)=iF (o6 (strip aK)) a8.length a8/\
  F=[some (.ref d),some (.ref ak),some (.ref A),w3,some (.ref lk),some (.ref sc),some (.int t.length),w7])
  (ur 0 f lH 0 [] _ (uq lM m6 (λj B _=>lu j B) (ft _) rfl rfl rfl)) ?_)
 intro N F s lF K W;obtain ⟨ll,f,H,p,t,w7,u,S,hf,hp,rfl,hr,rfl⟩:=lF
 have kT:H.length=t.length+(a8.length -p):=by
  have:=congrArg fi S
  rwa [bb,bh,ey] at this
 have kJ:=jd (a:=a+9) (e:=[some (.ref d),some (.ref ak),some (.ref A),w3,some (.ref lk),some (.ref sc),some (.int t.length),w7]) (eO (g:=.var 2) (a:=28) (a5 rfl) u.obj rfl) (f7 u.lst)
 rw [bb,u.inf.1] at kJ
 refine ei (decide (t.length<H.length)) (pv (f9 (fU (a5 rfl) kJ (n0 (decide_eq_decide.mpr h9.symm))))) (λm9 lh=>⟨λz=>?_,λz=>?_⟩)
 .have z:=of_decide_eq_true z
  have M:p<a8.length:=Vk kT z
  have u:=u.grow lh
  have kG:a8.drop p=a8[p]::a8.drop (p+1):=fP M
  have kP:0<(a8.drop p).length:=by rw [ey];exact iX M
  have kZ:(a8.drop p).headD 0=a8[p]:=by rw [kG];rfl
  have kC:(a8.drop p).drop 1=a8.drop (p+1):=by rw [ig]
  have kY:gD H t.length=a8[p]:=by
   unfold gD
   rw [<-ed,S,fj (eJ _),jB,kG];rfl
  have lj:(H.map (·.g)).drop (t.length+1)=a8.drop (p+1):=by rw [S,<-ig,iU,kC]
  have e1:=sN _ lW kP
  have kN:∀(q:Nat×Int),o6 (strip aK) (a8.drop p)=q->q.1<=a8.length -p->0<q.1->t++[q.2]++iF (o6 (strip aK)) (a8.length - (p+q.1)) (a8.drop (p+q.1))=iF (o6 (strip aK)) a8.length a8:=λq hq L Z=>by
   rw [ey,hq,ig,ey] at e1
   rw [eC,<-hr,e1];rfl
  have m8:(t++[(0:Int)]).length=t.length+1:=bh
  refine je (g6 dt (vE (a5 rfl) (a5 rfl) (a5 rfl)) (H0 (a:=a) u hS lY lx hT z hf (λkU kB kM=>?_) λkU lS lr lB q kB kO lq lJ=>?_))
  .rw [kY,lj] at kM
   have kn:o6 (strip aK) (a8.drop p)=(1,a8[p]):=by unfold o6;rw [kZ,kC,kM]
   refine je (show VT PG _ _ _ _ _ _ from f9 (fU (a5 rfl) dt (D5 (aw:=false) rfl)) _ ?_)
   rw [if_neg gL]
   refine ia (bZ:=((t.length+1:Nat):Int)) (a5 rfl) dt rfl _ (W _ _ _ (i3 M (fG p)) (ur ll f H (p+1) (t++[a8[p]]) (some (.int (-1))) (uq kB ?_ (λj B hj=>hf j B (by rw [bh] at hj;exact nT hj)) M rfl (kN _ kn (iX M) j9) ?_)))
   .rw [S,kG,eC];rfl
   .rw [bh];rfl
  .rw [kY,lj] at kO
   have kn:o6 (strip aK) (a8.drop p)=(1+q.1.length,q.2):=by unfold o6;rw [kZ,kC,kO]
   have kI:=Gh (strip aK) kP
   rw [kn,ey] at kI
   have lz:p+(1+q.1.length)<=a8.length:=H_ (eA M) kI.1
   refine je (show VT PG _ _ _ _ _ _ from f9 (fU (a5 rfl) dt (D5 (aw:=true) (decide_eq_true (gC (t.length+1))).symm)) _ ?_)
   rw [if_pos rfl]
   refine a5 rfl _ (W _ _ _ (i3 M (gj (eh j9 (eg _ _)))) (ur lS lr lB (p+(1+q.1.length)) (t++[q.2]) (some (.int (t.length+1:Nat))) (uq kB ?_ (λj B hj=>lJ j B (by rw [bh] at hj;exact hj)) lz rfl (kN _ kn kI.1 (eh j9 (eg _ _))) ?_)))
   .rw [lq,S,Qh,show t.length+q.1.length+1=t.length+(1+q.1.length) by exact y5,<-ig,iU,ig,eC];rfl
   .rw [bh];rfl
 .have z:=of_decide_eq_false z
  have lg:a8.length -p=0:=Vl kT z
  rw [lg,show iF (o6 (strip aK)) 0 (a8.drop p)=[] from rfl,eR] at hr
  have lK:a8.drop p=[]:=pD (nG lg)
  rw [lK,eR,hr] at S
  have u:=u.grow lh
  refine AR (jr (a5 rfl) u.obj rfl rfl rfl gP (Gi (a:=a+7) u _ λkW kU lQ hv=>hR _ _ _ (b4 (b4 ky u.le) lQ) ?_))
  rw [S] at hv
  exact hv.mono (b4 ky u.le)
theorem RY:∀(u:g9) {a b:g9},u++a<u++b->a<b:=by
 intro d
 induction d with
 |nil=>
  intro _ _ h
  exact h
 |cons x u c=>
  intro a b h
  exact c ((G2.mp h).resolve_left (xZ x)).2
theorem vx (h:a7.Pairwise λa b=>a.1<b.1) (u:g9):(gG a7 u).Pairwise λa b=>a.1<b.1:=by
 unfold gG
 refine gh.mpr ((h.filter _).imp_of_mem λ{a b} e d c=>?_)
 refine j_ (gK.mp (gA.mp e).2) λx f=>?_
 refine j_ (gK.mp (gA.mp d).2) λy g=>?_
 rw [<-f,<-g] at c⊢
 rw [iU,iU]
 exact RY u c
noncomputable def xR (ws:List Row) (p:g9):Int:=((ws.find? λr=>decide (r.1=p)).map (·.2)).getD (-1)
theorem Ku (c:(a7.map (·.1)).Nodup) (h:(av,p)∈a7):xR a7 av=p:=by
 refine qX (m_ h) λa b e=>?_;clear h;subst e
 have:(a++(av,p)::b).find? (λr=>decide (r.1=av))=some (av,p):=mT.mpr ⟨decide_eq_true rfl,a,b,rfl,λr d=>by
  rw [b_,eP] at c
  rw [decide_eq_false λq=>c.2.2 _ (fC d) av (.head _) q];rfl⟩
 unfold xR
 rw [this];rfl
theorem Bt (h:∀l,(av,l)∉a7):xR a7 av= -1:=by
 unfold xR
 rw [jL.mpr λr a q=>h r.2 (by rw [<-of_decide_eq_true q];exact a)];rfl
structure oF (W:List Row) (A:Au) (ps:List g9) (ws:List Row):Prop where
 ok:A.Ok
 fwd:RR A
 len:ps.length=A.steps.length
 p0:ps[0]? =some []
 nd:ps.Nodup
 step:∀(n:Nat) g (t:Nat) pn,ps[n]? =some pn->(A.step n g=some t↔ps[t]? =some (pn++[g]))
 ends:∀(n:Nat) pn,ps[n]? =some pn->A.end n=xR ws pn
 pre:∀p∈ps,p=[]\/∃r∈W,p<+:r.1
 wp:∀r∈ws,r.1∈ps
 pc:∀p g,p++[g]∈ps->p∈ps
theorem oF.grow (h:oF a7 r aM aQ) {g:Int} (m:aM[a]? =some av) (D:∃z∈a7,av++[g]<+:z.1):∃F t,oF a7 (r.grow a g) F aQ/\(r.grow a g).step a g=some t/\F[t]? =some (av++[g]):=by
 have k:a<r.steps.length:=h.len▸gy m
 induction i:r.step a g with
 |some t=>
  refine nr aM t (by unfold x5;rw [i];exact h) (by unfold x5;rw [i];exact i) ((h.step a g t av m).mp i)
 |none=>
  have v:av++[g]∉aM:=λq=>by
   obtain ⟨t,I⟩:=eZ.mp q
   rw [(h.step a g t av m).mpr I] at i;contradiction
  have E:(r.grow a g).steps.length=r.steps.length+1:=by rw [p4,i];rfl
  have C:(aM++[av++[g]])[r.steps.length]? =some (av++[g]):=by rw [<-h.len];exact jz
  have w:=vp (p:=g) k
  rw [i] at w
  have H:∀n x,(r.grow a g).step n x=if n=a/\x=g then some r.steps.length else r.step n x:=λn x=>by
   unfold U_
   rw [mQ k i]
   by_cases j:n=a
   .rw [if_pos j,A7 i]
    by_cases u:x=g
    .rw [if_pos u,if_pos ⟨j,u⟩]
    .rw [if_neg u,if_neg λq=>u q.2,j]
   .rw [if_neg j,if_neg λq=>j q.1]
  have s:∀{n:Nat} {p:g9},(aM++[av++[g]])[n]? =some p->aM[n]? =some p\/(n=r.steps.length/\p=av++[g]):=λ{n p} c=>by
   rcases j' n aM.length with f |f
   .rw [eN f] at c;exact .inl c
   .rw [fj f] at c
    have G:n -aM.length=0:=iZ.mp (gy c)
    rw [G] at c
    exact .inr ⟨by rw [<-h.len];exact ir (ui.mp G) f,(d3 c).symm⟩
  refine nr (aM++[av++[g]]) r.steps.length ⟨h.ok.grow k g,λn p c=>?_,by rw [bh,E,h.len];rfl,by rw [eN (gy h.p0)];exact h.p0,?_,λn x t B j=>?_,λn B j=>?_,?_,λz J=>fQ _ (h.wp z J),λp x c=>?_⟩ w C
  .rw [mQ k i] at c
   split at c
   .rename_i o
    rcases eF.mp c with c |c
    .rw [o];exact h.fwd a p c
    .rw [dk.mp c,o];exact k
   .exact h.fwd n p c
  .exact eP.mpr (iz h.nd (eT.mpr ⟨ee,eI⟩) (λQ L b O q=>v (by rw [<-dk.mp O,<-q];exact L)))
  .rw [H]
   rcases s j with d |⟨d,A⟩
   .have K:n<r.steps.length:=h.len▸gy d
    clear D k i E w H j K;by_cases y:n=a/\x=g
    .obtain ⟨rfl,rfl⟩:=y
     rw [if_pos ⟨rfl,rfl⟩]
     rw [m] at d
     obtain rfl:=d3 d
     constructor
     .intro e;obtain rfl:=d3 e;exact C
     .intro e
      rcases s e with e |⟨e,_⟩
      .exact absurd (fh e) v
      .rw [e]
    .rw [if_neg y,h.step n x t B d]
     constructor
     .intro e;rw [eN (gy e)];exact e
     .intro e
      rcases s e with e |⟨_,e⟩
      .exact e
      .have f:=Ob e rfl
       have o:n=a:=iR (gy d) h.nd|>.mp (by rw [d,m,f.1])
       exact absurd ⟨o,EE f.2⟩ y
   .have o:n≠a:=λq=>jg a (by rw [<-q] at k⊢;exact d▸k)
    rw [if_neg λq=>o q.1]
    have P:r.step n x=none:=by
     unfold U_
     rw [yF (by rw [d];exact jg _)];rfl
    rw [P]
    constructor
    .intro e;contradiction
    .intro e
     rw [A] at e
     rcases s e with e |⟨_,e⟩
     .exact absurd (h.pc _ _ (fh e)) v
     .have:=congrArg fi e
      rw [bh] at this
      exact absurd this (oy (fG _))
  .have M:(r.grow a g).end n=if n=r.steps.length then -1 else r.end n:=by
    unfold x5 Au.end;rw [i]
    show (r.ends++[-1]).getD n (-1)=_
    rw [d_,d_]
    rcases j' n r.ends.length with f |f
    .rw [eN f,if_neg (by rw [<-h.ok.len];exact rz f)]
    .rw [fj f,i_ f]
     rcases n -r.ends.length with ⟨⟩<;>(split<;>rfl)
   rw [M]
   rcases s j with d |⟨d,A⟩
   .rw [if_neg (rz (h.len▸gy d))];exact h.ends n B d
   .rw [if_pos d,A]
    exact (Bt λl N=>v (h.wp _ N)).symm
  .intro p c
   rcases eF.mp c with c |c
   .exact h.pre p c
   .rw [dk.mp c];exact .inr D
  .rcases eF.mp c with c |c
   .exact fQ _ (h.pc p x c)
   .rw [(Ob (dk.mp c) rfl).1]
    exact fQ _ (fh m)
theorem Ej (c:a7.Pairwise λa b=>a.1<b.1):(a7.map (·.1)).Nodup:=gh.mpr (l' (S:=λa b:Row=>a.1≠b.1) (λ{a b} h q=>oe b.1 (by rw [q] at h;exact h)) c)
theorem oF.go:∀(w u:g9) {A:Au} {ps:List g9} {k:Nat},oF a7 A ps aQ->ps[k]? =some u->(∃r∈a7,r.1=u++w)->∃c,oF a7 (jH A k w).1 c aQ/\c[(jH A k w).2]? =some (u++w)
 |[],u,A,ps,k,h,b,_=>ei ps h (by rw [eR];exact b)
 |a::w,u,A,ps,k,h,b,⟨r,l,e⟩=>by
  refine jS (h.grow (g:=a) b (ei r l (by rw [e];exact (oJ w (by rw [eC];rfl))))) λc t o i n=>?_
  have f:((A.grow k a).step k a).getD 0=t:=by rw [i];rfl
  have j:u++[a]++w=u++a::w:=by rw [eC];rfl
  clear h b i;refine eS (oF.go w (u++[a]) o n (ei r l (by rw [j];exact e))) λd p m=>?_
  refine ei d ?_ ?_
  .show oF a7 (jH (A.grow k a) (((A.grow k a).step k a).getD 0) w).1 d aQ
   rw [f];exact p
  .show d[(jH (A.grow k a) (((A.grow k a).step k a).getD 0) w).2]? =_
   rw [f,<-j];exact m
theorem Kv (h:∀q∈a7,q.1≠bj.1):xR (a7++[bj]) av=if av=bj.1 then bj.2 else xR a7 av:=by
 unfold xR
 rw [List.find?_append]
 by_cases a:av=bj.1
 .rw [if_pos a,jL.mpr λq b e=>h q b (by rw [of_decide_eq_true e];exact a)]
  rw [GI (p:=λq:Row=>decide (q.1=av)) (decide_eq_true a.symm)];rfl
 .rw [if_neg a]
  have:([bj].find? λq=>decide (q.1=av))=none:=jL.mpr λq b e=>a (by rw [<-of_decide_eq_true e,dk.mp b])
  rw [this,Option.or_none]
theorem oF.add (h:oF a7 r aM aQ) (i:bj∈a7) (g:∀q∈aQ,q.1≠bj.1):∃d,oF a7 (r.add bj.1 bj.2) d (aQ++[bj]):=by
 refine eS (oF.go bj.1 [] h h.p0 (ei bj i rfl)) λd a b=>?_
 have b:d[(jH r 0 bj.1).2]? =some bj.1:=b
 refine oJ d ⟨h.ok.add _ _,a.fwd,a.len,a.p0,a.nd,a.step,λn j f=>?_,a.pre,λq c=>?_,a.pc⟩
 .rw [Kv g]
  show ((jH r 0 bj.1).1.ends.set (jH r 0 bj.1).2 bj.2).getD n (-1)=_
  rw [d_,nJ]
  by_cases e:(jH r 0 bj.1).2=n
  .rw [if_pos e,if_pos (by rw [a.ok.len,<-a.len];exact gy b)]
   rw [e,f] at b
   rw [if_pos (d3 b)];rfl
  .rw [if_neg e,<-d_]
   rw [if_neg λq=>e ((iR (gy b) a.nd).mp (by rw [b,f,q]))]
   exact a.ends n j f
 .rcases eF.mp c with c |c
  .exact a.wp q c
  .rw [dk.mp c];exact fh b
theorem NO:∀(b:List Row) {A:Au} {ps:List g9} {a:List Row},oF a7 A ps a->(∀r∈b,r∈a7)->((a++b).map (·.1)).Nodup->∃f,oF a7 (jl A b) f (a++b):=by
 intro l
 induction l with
 |nil=>
  intro A ps a h _ _
  exact ⟨ps,by rw [eR];exact h⟩
 |cons r b i=>
  intro A ps a h g c
  obtain ⟨f,k⟩:=h.add (g r (.head _)) λq d e=>by
   rw [b_,eP] at c
   exact c.2.2 _ (fC d) r.1 (.head _) e
  have e:a++[r]++b=a++r::b:=by rw [eC];rfl
  obtain ⟨m,j⟩:=i k (λq d=>g q (.tail _ d)) (by rw [e];exact c)
  exact ⟨m,e▸j⟩
theorem Ue:oF a7 A8 [[]] [] where
 ok:=HI
 fwd n p b:=by
  have:=wx b
  have c:n=0:=iZ.mp this.1
  subst c;contradiction
 len:=rfl
 p0:=rfl
 nd:=eT.mpr ⟨ee,eI⟩
 step n g t d a:=by
  have c:n=0:=iZ.mp (gy a)
  subst c
  (injection a with a;subst a)
  exact ⟨λe=>(by contradiction),λe=>by
   have f:t=0:=iZ.mp (gy e)
   subst f;(injection e;contradiction)⟩
 ends n d a:=by
  have c:n=0:=iZ.mp (gy a)
  subst c;rfl
 pre p b:=.inl (dk.mp b)
 wp:=(by intros;contradiction)
 pc p g b:=by
  have:=congrArg fi (dk.mp b)
  rw [bh] at this;contradiction
theorem oF.begin (h:oF a7 r aM aQ) (p:g9):∀(q:g9),p++q∈aM->p∈aM:=by
 intro q
 induction q using snoc_ind with
 |h0=>intro a;rwa [eR] at a
 |h1 q g b=>intro a;rw [<-eC] at a;exact b (h.pc _ _ a)
theorem oF.x6 (h:oF a7 r aM aQ) (s:a7.Perm aQ) (q:a7.Pairwise λD b=>D.1<b.1) (y:∀c∈a7,10<=c.2):tT r (λn=>gG a7 (aM.getD n [])):=by
 have H:=Ej q
 have I:(aQ.map (·.1)).Nodup:=(s.map _).nodup H
 have u:∀n,n<r.steps.length->∃d,aM[n]? =some d/\aM.getD n []=d:=λn f=>by
  have C:n<aM.length:=h.len▸f
  have e:=df C
  exact ei _ e (by rw [d_,e];rfl)
 have v:∀p,∀c∈gG a7 p,10<=c.2:=λp c i=>y (p++c.1,c.2) (mR.mp i)
 have z:∀p,sL (gG a7 p)=xR aQ p:=λp=>by
  by_cases j:∃l,(p,l)∈aQ
  .refine j_ j λl j=>?_
   rw [Ku I j]
   have:([],l)∈gG a7 p:=mR.mpr (by rw [eR];exact s.mem_iff.mpr j)
   exact ((sO (vx q p) (v p)).mp this).1.symm
  .rw [Bt λl y=>j (oJ l y)]
   refine gg λE=>j (oJ (sL (gG a7 p)) (s.mem_iff.mp ?_))
   have:=mR.mp ((sO (vx q p) (v p)).mpr ⟨rfl,E⟩)
   rwa [eR] at this
 refine ⟨h.ok,λn f=>?_,λn g t f w=>?_,λn g f w=>?_,λn _=>vx q _,λn _=>v _⟩
 .refine eS (u n f) λd m k=>?_
  rw [k,z];exact h.ends n d m
 .refine eS (u n f) λd m k=>?_
  have o:=(h.step n g t d m).mp w
  have G:aM.getD t []=d++[g]:=by rw [d_,o];rfl
  show gG a7 (aM.getD t [])=after (gG a7 (aM.getD n [])) g/\after (gG a7 (aM.getD n [])) g≠[]
  rw [G,k]
  unfold after
  rw [tD]
  refine ⟨rfl,?_⟩
  rcases h.pre _ (fh o) with J |⟨c,i,A⟩
  .have:=congrArg fi J
   rw [bh] at this;contradiction
  .refine j_ A λx B=>?_
   exact rF (a:=(x,c.2)) (mR.mpr (by show (d++[g]++x,c.2)∈a7;rw [B];exact i))
 .refine eS (u n f) λd m k=>?_
  show after (gG a7 (aM.getD n [])) g=[]
  rw [k]
  unfold after
  rw [tD]
  refine zP.mpr λc i=>?_
  have i:=mR.mp i
  have F:=h.wp _ (s.mem_iff.mp i)
  refine j_ (eZ.mp (h.begin _ _ F)) λt o=>?_
  rw [(h.step n g t d m).mpr o] at w
  contradiction
theorem oF.Ta (h:oF a7 r aM aQ) (d:∀a∈a7,DY a.1):RT r:=λi g k=>by
 refine iQ g (ck.mp k) λp b=>?_
 have f:=(wx b).1
 have m:i<aM.length:=h.len▸f
 have e:=df m
 have n:r.step i p.1=some p.2:=vq (h.ok.rP i) b
 have c:=(h.step i p.1 p.2 _ e).mp n
 rcases h.pre _ (fh c) with o |⟨a,l,j⟩
 .have:=congrArg fi o
  rw [bh] at this;contradiction
 .exact d a l p.1 (j.subset (fS _ (.head _)))
theorem Gk (c:a7.Perm aQ) (d:a7.Pairwise λa b=>a.1<b.1) (g:∀r∈a7,10<=r.2) (f:∀r∈a7,DY r.1):∃L,tT (jl A8 aQ) L/\L 0=a7/\RR (jl A8 aQ)/\RT (jl A8 aQ):=by
 have e:=Ej d
 obtain ⟨ps,h⟩:=NO (a7:=a7) aQ Ue (λr i=>c.mem_iff.mpr i) ((c.map _).nodup e)
 refine qV _ (h.x6 c d g) ?_ h.fwd (h.Ta f)
 show gG a7 (ps.getD 0 [])=a7
 rw [d_,h.p0];exact tC a7
noncomputable def C1 (R:List Row) (spot:Nat) (b:Nat×Int):List Int->Nat×Int
 |[]=>b
 |g::s=>if after R g=[] then b else C1 (after R g) (spot+1) (if sL (after R g)= -1 then b else (spot+1,sL (after R g))) s
theorem NP (G:tT r aq):∀(s:List Int) (k c:Nat) (b:Nat×Int),k<r.steps.length->iC r k c b s=C1 (aq k) c b s:=by
 intro j
 induction j with
 |nil=>
  intro _ _ _ _
  exact rfl
 |cons g s f=>
  intro k c b e
  show _=if after (aq k) g=[] then b else _
  induction a:r.step k g with
  |none=>rw [nR a,if_pos (G.stop k g e a)]
  |some t=>
   have d:=n_ G.ok a
   refine iK (G.step k g t e a) λi h=>?_
   rw [oZ a,if_neg h,f t (c+1) _ d,G.fin t d,i]
structure B4 (R:List Row):Prop where
 CQ:R.Pairwise λa b=>a.1<b.1
 HE:∀r∈R,10<=r.2
theorem B4.after (h:B4 a7) (u:g9):B4 (gG a7 u):=⟨vx h.CQ u,λr a=>h.HE (u++r.1,r.2) (mR.mp a)⟩
theorem B4.uniq (h:B4 a7) (l:bj∈a7) (k:cM∈a7) (e:bj.1=cM.1):bj=cM:=by
 have f:=Ej h.CQ
 obtain ⟨i,a⟩:=eZ.mp l
 obtain ⟨j,c⟩:=eZ.mp k
 have b:(a7.map (·.1))[i]? =some bj.1:=by rw [ed,a];rfl
 have d:(a7.map (·.1))[j]? =some cM.1:=by rw [ed,c];rfl
 have g:i=j:=(iR (gy b) f).mp (by rw [b,d,e])
 rw [g,c] at a
 exact (d3 a).symm
theorem Kw:∀(s:List Int) {R:List Row} (a:Nat) (b:Nat×Int),B4 R->
 (∃r∈R,r.1≠[]/\r.1<+:s/\(∀q∈R,q.1<+:s->q.1.length<=r.1.length)/\C1 R a b s=(a+r.1.length,r.2))\/((∀r∈R,r.1<+:s->r.1=[])/\C1 R a b s=b):=by
 intro E
 induction E with
 |nil=>
  intro R a b _
  exact .inr ⟨λr _ h=>List.prefix_nil.mp h,rfl⟩
 |cons g s A=>
  intro R a b h
  have n:∀r∈R,r.1<+:g::s->r.1=[]\/∃w,r.1=g::w/\w<+:s/\(w,r.2)∈after R g:=λr i f=>by
   induction d:r.1 using ej with
   |nil=>exact .inl rfl
   |cons x w=>
    rw [d] at f
    refine iK (jR.mp f) λe F=>?_
    clear A h f;subst e
    exact .inr (gq w rfl F (jU.mpr (by rw [<-d];exact i)))
  by_cases v:after R g=[]
  .refine .inr ⟨λr i f=>(n r i f).elim id λy=>?_,if_pos v⟩
   refine gi y λw _ _ c=>?_
   rw [v] at c;exact (ee c).elim
  .have m:=h.after [g]
   have t:C1 R a b (g::s)=C1 (after R g) (a+1) (if sL (after R g)= -1 then b else (a+1,sL (after R g))) s:=if_neg v
   rcases A (a+1) (if sL (after R g)= -1 then b else (a+1,sL (after R g))) m with ⟨r,i,p,j,B,D⟩ |⟨p,j⟩
   .refine .inl ⟨(g::r.1,r.2),(jU.mp i),(qa _ _),(jR.mpr ⟨rfl,j⟩),(λq z u=>?_),?_⟩
    .rcases n q z u with e |⟨w,e,d,c⟩
     .rw [e];exact ft _
     .rw [e];exact fg (B _ c d)
    .rw [t]
     refine D.trans ?_
     show (a+1+r.1.length,r.2)=(a+(r.1.length+1),r.2)
     rw [fI,eY 1]
   .by_cases k:sL (after R g)= -1
    .refine .inr ⟨λr i f=>(n r i f).elim id λy=>?_,by rw [t,if_pos k];rw [if_pos k] at j;exact j⟩
     refine gi y λw e d c=>?_
     have o:w=[]:=p _ c d
     subst o
     exact absurd k ((sO m.CQ m.HE).mp c).2
    .have c:=(sO m.CQ m.HE (p:=sL (after R g))).mpr ⟨rfl,k⟩
     refine .inl ⟨([g],sL (after R g)),(jU.mp c),(qa _ _),(jR.mpr ⟨rfl,uk⟩),(λq z u=>?_),(by rw [t,if_neg k];rw [if_neg k] at j;exact j)⟩
     rcases n q z u with e |⟨w,e,d,C⟩
     .rw [e];exact ft _
     .have o:w=[]:=p _ C d
      rw [e,o];exact eJ _
theorem H2:∀(d f:List Row),f ⊆ mP f d:=by
 intro c
 induction c with
 |nil=>
  intro _
  exact λ_ h=>h
 |cons x d b=>
  intro f
  exact λq a=>b _ (by
  split
  .exact a
  .exact fQ _ a)
theorem H3:∀(d f:List Row) {q:Row},q∈mP f d->q∈f\/(q∈d/\∀p∈f,jy q.1 p.1=false):=by
 intro e
 induction e with
 |nil=>
  intro _ _ h
  exact .inl h
 |cons x d c=>
  intro f q h
  by_cases a:f.any (λq=>jy x.1 q.1)=true
  .have h:q∈mP f d:=by
    have:mP f (x::d)=mP f d:=by show mP (if _ then _ else _) d=_;rw [if_pos a]
    rwa [this] at h
   exact (c f h).imp id λh=>⟨.tail _ h.1,h.2⟩
  .have h:q∈mP (f++[x]) d:=by
    have:mP f (x::d)=mP (f++[x]) d:=by show mP (if _ then _ else _) d=_;rw [if_neg a]
    rwa [this] at h
   rcases c _ h with h |h
   .rcases eF.mp h with h |h
    .exact .inl h
    .rw [dk.mp h]
     refine .inr ⟨.head _,λp b=>?_⟩
     rw [l_,nK] at a
     exact nL.mpr (a p b)
   .exact .inr ⟨.tail _ h.1,λp b=>h.2 p (fQ _ b)⟩
theorem Jk (d:List Row):((live d).map (·.1)).Nodup:=by
 induction d using snoc_ind with
 |h0=>exact eI
 |h1 d r e=>
  rw [oX]
  by_cases c:(live d).any (λq=>jy r.1 q.1)=true
  .rw [if_pos c];exact e
  .rw [if_neg c,b_]
   rw [l_,nK] at c
   refine eP.mpr ⟨e,eT.mpr ⟨ee,eI⟩,λa g b f q=>?_⟩
   refine eS (ck.mp g) λp h i=>?_;clear e g;subst i
   have f:b=r.1:=dk.mp f
   exact c p h (gK.mpr (by rw [<-f,<-q];exact List.prefix_refl _))
theorem Bu (d:∀q∈a7,jy av q.1=false) (i:jy av bj.1=true):bj∈live (a7++bj::aQ)/\∀q∈live (a7++bj::aQ),jy av q.1=true->q.1.length<=bj.1.length:=by
 have l:live (a7++bj::aQ)=mP (live (a7++[bj])) aQ:=by
  rw [show a7++bj::aQ=(a7++[bj])++aQ by rw [eC];rfl];exact FJ _ _ _
 have b:=gK.mp i
 have e:∀q∈live a7,q∈a7:=λq a=>(xE a7 []).subset a
 have g:live (a7++[bj])=live a7++[bj]:=by
  rw [oX,if_neg]
  rw [l_,nK]
  exact λq a k=>by
   have:=d q (e q a)
   rw [gK.mpr ((gK.mp k).trans b)] at this
   contradiction
 rw [l,g]
 refine ⟨H2 _ _ (fS _ (.head _)),λq a c=>?_⟩
 have j:=gK.mp c
 rcases H3 _ _ a with a |⟨_,a⟩
 .rcases eF.mp a with a |a
  .rw [d q (e q a)] at c;contradiction
  .rw [dk.mp a];exact eJ _
 .have f:=a bj (fS _ (.head _))
  rcases uj q.1.length bj.1.length with h |h
  .exact h
  .rw [gK.mpr (zA b j h)] at f;contradiction
theorem Bv (c:(aU.map (·.1)).Nodup):(p::av,aB)∈j2 aU↔(av,aB)∈live ((aU.lookup p).getD []):=by
 have k:∀a∈aU,aU.lookup a.1=some a.2:=λa d=>by
  refine qX (m_ d) λi g e=>?_
  rw [e] at c⊢
  rw [b_,eP] at c
  refine gS.mpr (nA i g rfl (λq o=>?_))
  rw [bne_iff_ne]
  exact λb=>c.2.2 _ (fC o) a.1 (.head _) b.symm
 constructor
 .intro h
  refine eS (oq.mp h) λa d n=>?_
  refine eS (ck.mp n) λr m e=>?_
  have j:=fo (k7 e).1
  have b:r.2=aB:=(k7 e).2
  rw [<-j.1,k a d,<-j.2,<-b];exact m
 .intro h
  induction f:aU.lookup p using d7 with
  |none=>rw [f] at h;contradiction
  |some l=>
   rw [f] at h
   refine i5 (gS.mp f) λi g e _=>?_
   exact oq.mpr (ei (p,l) (by rw [e];simp) (ck.mpr ⟨(av,aB),h,rfl⟩))
theorem Ky (d:(aU.map (·.1)).Nodup):((j2 aU).map (·.1)).Nodup:=by
 induction aU with
 |nil=>exact eI
 |cons p aU e=>
  rw [eG,eT] at d
  show ((((live p.2).map (jP p.1))++j2 aU).map (·.1)).Nodup
  rw [b_,er]
  refine eP.mpr (iz ?_ (e d.2) (λa i b g q=>?_))
  .have:=B_ (R:=(·≠·)) (S:=(·≠·)) (Oa p.1) (λa b h q=>h (fo q).2) (Jk p.2)
   rwa [er] at this
  .refine eS (ck.mp i) λr _ c=>?_;subst c
   refine eS (ck.mp g) λx f c=>?_;subst c
   refine eS (oq.mp f) λl k j=>?_
   clear e i f g;refine eS (ck.mp j) λy _ c=>?_;clear j;subst c
   exact d.1 ((fo q).1▸fC k)
theorem zr (i:(aU.map (·.1)).Nodup):∃W:List Row,W.Perm (j2 aU)/\W.Pairwise λa b=>a.1<b.1:=by
 have d:=wI (j2 aU) λa b=>decide (a.1<=b.1)
 refine ei _ d ?_
 have e:=tK (le:=λa b:Row=>decide (a.1<=b.1)) (λa b c d e=>decide_eq_true (Q0 (of_decide_eq_true d) (of_decide_eq_true e))) (λa b=>by
  rw [j1,decide_eq_true_iff,decide_eq_true_iff];exact Q1 a.1 b.1) (j2 aU)
 have g:((j2 aU).mergeSort λa b=>decide (a.1<=b.1)).Pairwise λa b=>a.1≠b.1:=gh.mp ((d.map λr:Row=>r.1).symm.nodup (Ky i))
 refine (uZ.mpr ⟨e,g⟩).imp λ{a b} h=>?_
 have j:a.1<=b.1:=of_decide_eq_true h.1
 exact gg λf=>h.2 (N8 j (SW.mp f))
structure Jl (T:Table) (W:List Row):Prop where
 perm:W.Perm (j2 T)
 CQ:W.Pairwise λa b=>a.1<b.1
theorem Jl.P4 (h:Jl aU a7) (c:vn aU a):B4 a7:=⟨h.CQ,λr b=>(D1 c r (h.perm.mem_iff.mp b)).2.2.1⟩
noncomputable def uW (T:Table) (s:g9):List Row:=(T.lookup (s.headD 0)).getD []
noncomputable def firstM (T:Table) (s:g9):Option Row:=(uW T s).find? λr=>jy (s.drop 1) r.1
theorem Ek (G:tT r aq) (A:aq 0=a7) (j:Jl aU a7) (m:vn aU a) (n:av≠[]):j6 r av=match firstM aU av with |some q=>(1+q.1.length,q.2) |none=>(0,-1):=by
 refine Lk av (gf n) λg av=>?_
 unfold j6
 rw [NP G _ _ _ _ G.ok.pos,A]
 have t:=j.P4 m
 have z:∀w l,(g::w,l)∈a7↔(w,l)∈live (uW aU (g::av)):=λw l=>j.perm.mem_iff.trans (Bv m.keys)
 rcases Kw (g::av) 0 (0,-1) t with ⟨h,B,k,d,K,C⟩ |⟨k,d⟩
 .rw [C,iW]
  refine qX (gf k) λx w e=>?_
  rw [e] at d
  refine iK (jR.mp d) λL s=>?_
  clear G A j m n k C d;subst L
  have F:(w,h.2)∈live (uW aU (x::av)):=(z w h.2).mp (by rw [<-e];exact B)
  induction f:firstM aU (x::av) using d7 with
  |none=>
   have:=jL.mp f (w,h.2) ((xE _ []).subset F)
   exact absurd (gK.mpr s) this
  |some q=>
   obtain ⟨c,N,y,o,u⟩:=mT.mp f
   clear f;obtain ⟨i,H⟩:=Bu (av:=av) (λp v=>by have:=u p v;rwa [fK] at this) c (aQ:=y)
   rw [<-o] at i H
   have D:(x::q.1,q.2)∈a7:=(z q.1 q.2).mpr i
   have O:(x::q.1)<+:x::av:=jR.mpr ⟨rfl,gK.mp c⟩
   have E:=K _ D O
   have M:=H (w,h.2) F (gK.mpr s)
   rw [e] at E
   have I:q.1.length=w.length:=ir (gY E) M
   have J:q.1=w:=zA (gK.mp c) s (gu I)|>.eq_of_length I
   have:(x::q.1,q.2)=h:=t.uniq D B (by rw [e,J])
   rw [<-this]
   show (q.1.length+1,q.2)=(1+q.1.length,q.2)
   rw [eY]
 .rw [d]
  clear G A j m n t d;induction f:firstM aU (g::av) using d7 with
  |none=>rfl
  |some q=>
   obtain ⟨c,N,y,o,u⟩:=mT.mp f
   clear f;obtain ⟨i,_⟩:=Bu (av:=av) (λp v=>by have:=u p v;rwa [fK] at this) c (aQ:=y)
   rw [<-o] at i
   exact absurd (k _ ((z q.1 q.2).mpr i) (jR.mpr ⟨rfl,gK.mp c⟩)) (qa _ _)
theorem yO (f:vn aU a) (h:firstM aU av=some bj):bj.2≠-1:=by
 have b:=sm h
 unfold uW at b
 induction c:aU.lookup (av.headD 0) using d7 with
 |none=>rw [c] at b;contradiction
 |some d=>
  rw [c] at b
  refine i5 (gS.mp c) λi g e _=>?_
  have:=(f.rows (av.headD 0,d) (by rw [e];simp) bj b).HE
  exact λbj=>by rw [bj] at this;exact absurd this (by decide)
theorem Gl (T:Table) (s:g9):o6 T s=match firstM T s with |some q=>(1+q.1.length,q.2) |none=>(1,s.headD 0):=by
 unfold o6 firstM uW
 cases ((T.lookup (s.headD 0)).getD []).find? (λr=>jy (s.drop 1) r.1)<;>rfl
theorem Gm (w:g9) (b:Nat×Int):∀a:List Row,a.reverse.foldl (yK w) b=match a.find? (λr=>jy w r.1) with |some q=>(1+q.1.length,q.2) |none=>b:=by
 intro d
 induction d with
 |nil=>
  exact rfl
 |cons r a c=>
  rw [nI,iS,c]
  show yK w _ r=_
  unfold yK
  by_cases h:w.take r.1.length=r.1
  .rw [if_pos h,GI (p:=λr:Row=>jy w r.1) (decide_eq_true h)]
  .rw [if_neg h,GJ (p:=λr:Row=>jy w r.1) (by unfold jy;rw [decide_eq_false h];exact gL)]
theorem yP (s:g9) (b:Nat×Int) (T:Table):wA s b T=match firstM T s with |some q=>(1+q.1.length,q.2) |none=>b:=Gm _ _ _
theorem uX (T:Table) (s:g9):i4 [T] s=o6 T s:=by
 rw [Gl];exact yP _ _ _
theorem Jm (G:tT r aq) (e:aq 0=a7) (d:Jl aU a7) (b:vn aU a) (c:av≠[]):fX [r] av=o6 aU av:=by
 rw [qO,Gl,Ek G e d b c]
 induction h:firstM aU av with
 |none=>exact if_pos rfl
 |some q=>exact if_neg (yO b h)
variable {bV:Au}
theorem NQ {d:Nat->List Row} {b:Table} (G:tT r aq) (p:aq 0=a7) (m:Jl aU a7) (f:vn aU a) (i:tT bV d) (o:d 0=aQ) (g:Jl b aQ) (e:vn b a) (c:av≠[]):fX [r,bV] av=i4 [aU,b] av:=by
 have n:i4 [aU,b] av=wA av (wA av (1,av.headD 0) b) aU:=rfl
 have j:fX [r,bV] av=if (oQ [bV] av (j6 r av)).2= -1 then (1,av.headD 0) else oQ [bV] av (j6 r av):=rfl
 have l:oQ [bV] av (j6 r av)=if (j6 r av).2= -1 then j6 bV av else j6 r av:=rfl
 rw [n,j,l,yP,yP,Ek G p m f c,Ek i o g e c]
 induction h:firstM aU av using d7 with
 |none=>
  induction k:firstM b av using d7 with
  |none=>rfl
  |some q=>exact if_neg (yO e k)
 |some q=>
  have:=yO f h
  simp only [if_neg this]
theorem ro {f g:List Int->Nat×Int} (h:∀s,s≠[]->f s=g s):∀(n:Nat) (s:List Int),iF f n s=iF g n s
 |0,_=>rfl
 |_+1,[]=>rfl
 |n+1,x::s=>by
  show (f (x::s)).2::iF f n _=(g (x::s)).2::iF g n _
  rw [h _ (qa _ _),ro h n]
theorem Gn:∀(h:List Int) (k d:Nat) (b:Nat×Int) (m:List Int),jF r k h=false->iC r k d b (h++m)=iC r k d b h:=by
 intro i
 induction i with
 |nil=>
  intro k d b m a
  induction m using ej with
  |nil=>rfl
  |cons g m=>
   have f:r.at k=[]:=by
    have:(!(r.at k).isEmpty)=false:=a
    rw [jM] at this
    exact p_.mp this
   have:r.step k g=none:=by unfold U_;rw [f];rfl
   exact nR this
 |cons g h e=>
  intro k d b m a
  induction c:r.step k g using d7 with
  |none=>rw [iI,nR c,nR c]
  |some t=>
   have a:jF r t h=false:=by
    have:(match r.step k g with |none=>false |some t=>jF r t h)=false:=a
    rwa [c] at this
   rw [iI,oZ c,oZ c,e t _ _ m a]
theorem Kz (m:List Int) (b:0<a8.length) (a:jF r 0 a8=false):fX [r] (a8++m)=fX [r] a8:=by
 rw [qO,qO]
 have:j6 r (a8++m)=j6 r a8:=Gn a8 0 0 (0,-1) m a
 rw [this]
 clear a;induction a8 using ej with
 |nil=>contradiction
 |cons g a8=>rfl
theorem Gp:∀(f:Nat) (h m:List Int),h.length<=f->iF (fX [r]) (h++m).length (h++m)=(jx r h.length h).1++iF (fX [r]) ((jx r h.length h).2++m).length ((jx r h.length h).2++m)
 |0,[],m,_=>rfl
 |f+1,[],m,_=>rfl
 |f+1,g::h,m,i=>by
  have a:0<(g::h).length:=fz _
  rw [vt a]
  induction c:jF r 0 (g::h) using j5 with
  |true=>rfl
  |false=>
   have b:=q9 [r] a
   have e:0<((g::h)++m).length:=by rw [bh];exact eh a (eg _ _)
   rw [sN _ (p6 r) e,Kz m a c,List.drop_append_of_le_length b.1]
   have d:((g::h).drop (fX [r] (g::h)).1).length<=f:=by rw [ey];exact eX (eh (kf a b.2) i)
   rw [Gp f _ m d];rfl
theorem C2:∀(f:Nat) (h:List Int),h.length<=f->(jx r h.length h).2=[]\/jF r 0 (jx r h.length h).2=true
 |0,[],_=>.inl rfl
 |f+1,[],_=>.inl rfl
 |f+1,g::h,b=>by
  have a:0<(g::h).length:=fz _
  rw [vt a]
  induction c:jF r 0 (g::h) using j5 with
  |true=>exact .inr c
  |false=>
   have d:=q9 [r] a
   exact C2 f _ (by rw [ey];exact eX (eh (kf a d.2) b))
theorem C3 (d:List Int) (g:Int):kk r (d++[g])=((kk r d).1++(jx r ((kk r d).2++[g]).length ((kk r d).2++[g])).1,(jx r ((kk r d).2++[g]).length ((kk r d).2++[g])).2):=by
 rw [vu,show ((kk r d).2++[g]).length=(kk r d).2.length+1 from bh]
theorem P5 (d:List Int):∀m,iF (fX [r]) (d++m).length (d++m)=(kk r d).1++iF (fX [r]) ((kk r d).2++m).length ((kk r d).2++m):=by
 induction d using snoc_ind with
 |h0=>exact λ_=>rfl
 |h1 d g a=>
  intro m
  rw [eC,a ([g]++m),C3,<-eC,Gp _ _ m (eJ _),eC]
theorem P6 (a:List Int):(kk r a).1++iF (fX [r]) (kk r a).2.length (kk r a).2=iF (fX [r]) a.length a:=by
 have:=P5 (r:=r) a []
 rw [eR,eR] at this
 exact this.symm
theorem KA (G:tT r aq):∀(h:List Int) (k:Nat),k<r.steps.length->jF r k h=true->∃b∈aq k,∃g w,b.1=h++g::w:=by
 intro l
 induction l with
 |nil=>
  intro k f a
  have:(!(r.at k).isEmpty)=true:=a
  rw [fK,<-l_,p_] at this
  refine j_ (i7 _ this) λp j=>?_
  have m:=(G.keys f).2 p.1 (fC j)
  refine j_ (i7 _ m) λb d=>?_
  exact ⟨_,(jU.mp d),p.1,b.1,rfl⟩
 |cons g h i=>
  intro k f a
  have a:(match r.step k g with |none=>false |some t=>jF r t h)=true:=a
  induction c:r.step k g using d7 with
  |none=>rw [c] at a;contradiction
  |some t=>
   rw [c] at a
   refine Ls (i t (n_ G.ok c) a) λb d x w e=>?_
   rw [(G.step k g t f c).1] at d
   exact ⟨_,(jU.mp d),x,w,(by show g::b.1=_;rw [e];rfl)⟩
theorem NR (G:tT r aq) (d:List Int):(kk r d).2=[]\/∃a∈aq 0,(kk r d).2.length<a.1.length/\jy a.1 (kk r d).2=true:=by
 have f:(kk r d).2=[]\/jF r 0 (kk r d).2=true:=by
  induction d using snoc_ind with
  |h0=>exact .inl rfl
  |h1 d g _=>rw [C3];exact C2 _ _ (eJ _)
 refine f.imp id λb=>?_
 refine Ls (KA G _ 0 G.ok.pos b) λa c g w e=>?_
 refine gq a c ?_ (gK.mpr ⟨_,e.symm⟩)
 rw [e,bh,e_]
 exact gj (fz _)
theorem wC (c:dq.Nodup) (d:dT.Nodup) (b:∀x,x∈dq↔x∈dT):dq.length=dT.length:=
 ir (c.length_le_of_subset λx a=>(b x).mp a) (d.length_le_of_subset λx a=>(b x).mpr a)
theorem yQ (d:dq.Nodup) (f:∀a∈dq,∀b∈dq,dA a=dA b->a=b):(dq.map dA).Nodup:=
 gh.mpr (x_ (S:=λa b=>dA a≠dA b) (λ{a b} e c g q=>g (f a e b c q)) d)
theorem tT.reach (G:tT r aq):∀(u:g9) (k:Nat),k<r.steps.length->gG (aq k) u≠[]->∃j,j<r.steps.length/\aq j=gG (aq k) u:=by
 intro i
 induction i with
 |nil=>
  intro k a _
  exact ei k a (tC _).symm
 |cons g u c=>
  intro k a h
  have e:gG (aq k) (g::u)=gG (after (aq k) g) u:=(tD (aq k) [g] u).symm
  rw [e] at h⊢
  have l:after (aq k) g≠[]:=λq=>by rw [q] at h;exact h rfl
  refine gi (G.qP a l) λt _ b d=>?_
  refine eS (c t d (by rw [b];exact h)) λj m f=>?_
  exact ei j m (by rw [f,b])
theorem C4:av∈vT a7↔av=[]\/(av≠[]/\gG a7 av≠[]):=by
 unfold vT
 rw [eK,oq]
 constructor
 .rintro (h |⟨r,c,h⟩)
  .exact .inl h
  .refine iQ av (ck.mp h) λk b=>?_
   have b:=eU.mp b
   refine .inr ⟨λq=>?_,rF (a:=(r.1.drop (k+1),r.2)) (mR.mpr (by show (r.1.take (k+1)++r.1.drop (k+1),r.2)∈a7;rw [GY];exact c))⟩
   have:=congrArg fi q
   rw [fR,qK] at this
   exact WS b this
 .rintro (h |⟨h,d⟩)
  .exact .inl h
  .refine j_ (i7 _ d) λr c=>?_
   refine .inr ⟨_,mR.mp c,ck.mpr ⟨av.length -1,eU.mpr ?_,?_⟩⟩
   .have:=oG.mpr h
    show av.length -1<(av++r.1).length
    rw [bh];exact eh (kf this Qg) (eg _ _)
   .show (av++r.1).take (av.length -1+1)=av
    rw [pb (oG.mpr h),Qh]
structure sQ (W:List Row) (B:Au) (L:Nat->List Row):Prop where
 x6:tT B L
 l0:L 0=W
 inj:∀i j,i<B.steps.length->j<B.steps.length->L i=L j->i=j
 rc:∀i,i<B.steps.length->∃u,L i=gG W u/\(u=[]\/L i≠[])
theorem sQ.mem (h:sQ a7 r aq) (R:List Row):R∈(eQ r.steps.length).map aq↔R∈rests a7:=by
 unfold rests
 rw [xP,ck,ck]
 constructor
 .intro f;refine iQ R f λi d=>?_
  refine eS (h.rc i (eU.mp d)) λu c a=>?_
  refine ei u (C4.mpr ?_) c.symm
  rcases a with a |a
  .exact .inl a
  .by_cases b:u=[]
   .exact .inl b
   .exact .inr ⟨b,c▸a⟩
 .intro k;refine iQ R k λu b=>?_
  rcases C4.mp b with rfl |⟨_,a⟩
  .exact ei 0 (eU.mpr h.x6.ok.pos) (by rw [tC];exact h.l0)
  .refine eS (h.x6.reach u 0 h.x6.ok.pos (by rw [h.l0];exact a)) λj g e=>?_
   exact ei j (eU.mpr g) (by rw [e,h.l0])
theorem sQ.size (h:sQ a7 r aq):r.steps.length=(rests a7).length:=by
 have:=wC (yQ List.nodup_range λa d b c=>h.inj a b (eU.mp d) (eU.mp c)) (ND _) h.mem
 rwa [bb,fc] at this
theorem Gq {a b:Option Nat} (h:FC a=FC b):a=b:=by
 induction a using d7 with
 |none=>
  induction b using d7 with
  |none=>rfl
  |some y=>have:(-1:Int)=(y:Nat):=h;exact (JA this).elim
 |some x=>
  induction b using d7 with
  |none=>have:((x:Nat):Int)= -1:=h;exact (JA this.symm).elim
  |some y=>exact congrArg some (rB h)
theorem sQ.Gr (h:sQ a7 r aq) (b:a<r.steps.length) (g c:Int):r.step a g=r.step a c↔after (aq a) g=after (aq a) c:=by
 constructor
 .intro e
  induction d:r.step a g using d7 with
  |none=>rw [h.x6.stop a g b d,h.x6.stop a c b (e▸d)]
  |some t=>rw [<-(h.x6.step a g t b d).1,<-(h.x6.step a c t b (e▸d)).1]
 .intro e
  induction d:r.step a g using d7 with
  |none=>
   induction f:r.step a c using d7 with
   |none=>rfl
   |some t=>exact absurd (e▸h.x6.stop a g b d) (h.x6.step a c t b f).2
  |some t=>
   induction f:r.step a c using d7 with
   |none=>exact absurd (e▸h.x6.stop a c b f) (h.x6.step a g t b d).2
   |some i=>
    have k:=(h.x6.step a g t b d).1
    have j:=(h.x6.step a c i b f).1
    rw [h.inj t i (n_ h.x6.ok d) (n_ h.x6.ok f) (by rw [k,j,e])]
theorem sQ.P7 (h:sQ a7 r aq) (g b:Int):mY r g=mY r b↔uU (rests a7) g=uU (rests a7) b:=by
 have d:mY r g=mY r b↔∀j,j<r.steps.length->after (aq j) g=after (aq j) b:=by
  unfold mY
  rw [sv]
  exact ⟨λq j a=>(h.Gr a g b).mp (Gq (q j (eU.mpr a))),λq j a=>congrArg FC ((h.Gr (eU.mp a) g b).mpr (q j (eU.mp a)))⟩
 rw [d]
 unfold uU
 rw [sv]
 constructor
 .intro q R c
  refine iQ R (ck.mp ((h.mem R).mpr c)) λj a=>?_
  exact q j (eU.mp a)
 .exact λq j a=>q _ ((h.mem _).mp (ck.mpr (ei j (eU.mpr a) rfl)))
theorem sQ.sP (h:sQ a7 r aq) (g:Int):mY r g=mK r↔uU (rests a7) g=(rests a7).map λ_=>[]:=by
 have i:mK r=(eQ r.steps.length).map λ_=>(-1:Int):=by
  unfold mK
  exact (G0.mpr ⟨by rw [bb,fc],λe c=>by refine iQ e (ck.mp c) λ_ _=>?_;rfl⟩).symm
 rw [i]
 unfold mY uU
 rw [sv,sv]
 constructor
 .intro q R d
  refine iQ R (ck.mp ((h.mem R).mpr d)) λj a=>?_
  exact h.x6.stop j g (eU.mp a) (Gq (b:=none) (q j a))
 .intro q j a
  have:=q _ ((h.mem _).mp (ck.mpr (ei j a rfl)))
  induction f:r.step j g with
  |none=>rfl
  |some t=>exact absurd this (h.x6.step j g t (eU.mp a) f).2
theorem Gs [DecidableEq t] [DecidableEq a9] {c:h->a9} (k:∀a b,dA a=dA b↔c a=c b) (l:List h):(z3 (l.map dA)).length=(z3 (l.map c)).length:=by
 induction l using snoc_ind with
 |h0=>rfl
 |h1 l x i=>
  have j:dA x∈z3 (l.map dA)↔c x∈z3 (l.map c):=by
   rw [xP,xP,ck,ck]
   exact ⟨λf=>eS f λa g e=>(ei a g ((k a x).mp e)),λf=>eS f λa g e=>(ei a g ((k a x).mpr e))⟩
  rw [b_,b_,show [x].map dA=[dA x] from rfl,show [x].map c=[c x] from rfl,pz,pz]
  by_cases d:dA x∈z3 (l.map dA)
  .rw [if_pos d,if_pos (j.mp d)];exact i
  .rw [if_neg d,if_neg λq=>d (j.mpr q),bh,bh,i];rfl
theorem sQ.cols (h:sQ a7 r aq) (l:yI r (sortI a8) aM aD) (o:∀d,d∈a8↔∃i,d∈(r.at i).map (·.1)) (s:DY a8):(mK r::aM).length=(NA (rests a7)).length:=by
 have u:NA (rests a7)=z3 ((none::[1,2,3,4,5].map some:List (Option Int)).map λx=>match x with |none=>(rests a7).map λ_=>[] |some d=>uU (rests a7) d):=rfl
 rewrite [u,<-Gs (dA:=λx:Option Int=>match x with |none=>mK r |some d=>mY r d) (λa b=>?_)]
 .have w:∀d∈a8,mY r d∈aM:=λd k=>by
   have:d∈aD.map (·.1):=by rw [l.keys];exact ip.mpr k
   refine iQ d (ck.mp this) λp n=>?_
   refine eS (l.at_ p n) λj _ I=>?_
   exact fh I
  have y:mK r∉aM:=λv=>by
   refine eS (l.mem _ v) λd k e=>?_
   refine j_ ((o d).mp (ip.mp k)) λi m=>?_
   refine eS (ck.mp m) λp n E=>?_;clear l o s u w v k m;subst E
   have z:=(wx n).1
   have C:r.step i p.1=some p.2:=vq (h.x6.ok.rP i) n
   have t:=Nt (r:=r) (p:=p.1) z
   rw [<-e,C] at t
   have F:(mK r)[i]? =some (-1):=by unfold mK;rw [tL,if_pos z]
   rw [F] at t
   have:(-1:Int)=(p.2:Nat):=d3 t
   exact JA this
  refine wC (eT.mpr ⟨y,l.nd⟩) (ND _) λc=>?_
  rw [xP,ck,eK]
  constructor
  .rintro (rfl |D)
   .exact ei none (.head _) rfl
   .refine Lg c (l.mem c D) λd k=>?_
    have:=s d (ip.mp k)
    refine ei (some d) (.tail _ (ck.mpr ⟨d,?_,rfl⟩)) rfl
    simp only [eK,ee,or_false]
    exact Dm this
  .intro H;refine iQ c H λx B=>?_
   clear h l s u y B;induction x using d7 with
   |none=>exact .inl rfl
   |some d=>
    by_cases k:d∈a8
    .exact .inr (w d k)
    .exact .inl (Mine.sP λi m=>k ((o d).mpr (oJ i m)))
 .induction a using d7 with
  |none=>
   induction b using d7 with
   |none=>exact ⟨λ_=>rfl,λ_=>rfl⟩
   |some d=>exact ⟨λq=>((h.sP d).mp q.symm).symm,λq=>((h.sP d).mpr q.symm).symm⟩
  |some d=>
   induction b using d7 with
   |none=>exact h.sP d
   |some G=>exact h.P7 d G
theorem Br.least (G:tT r aq) (H:F0 r aq 0 aO cN) (b:Br r aq aO C aP a8) (h:aP.length=C.length):sQ (aq 0) ⟨aP,a8⟩ (λj=>aq (C.getD j 0)):=by
 have f:∀{i:Nat},i<aP.length->∃x,C[i]? =some x/\C.getD i 0=x/\x∈C:=λ{i} a=>by
  have e:=df (h▸a:i<C.length)
  exact gq _ e (by rw [d_,e];rfl) (fh e)
 refine ⟨b.x6 G (λn u=>(H.rg n (ft _) u).2) h,?_,λi j a s e=>?_,λi a=>?_⟩
 .show aq (C.getD 0 0)=_
  rw [d_,b.o0]
  exact (H.rg 0 (eJ _) G.ok.pos).2.2
 .refine gi (f a) λx g d c=>?_
  refine gi (f s) λy v k p=>?_
  rw [d,k] at e
  refine mV (b.rep x c) λl o _=>?_
  refine mV (b.rep y p) λt m _=>?_
  have q:=(H.ok x y (ft _) l (ft _) t).mpr e
  rw [o,m] at q
  clear G H h f a s d c e k p l o t m;subst q
  exact (iR (gy g) b.nd).mp (g.trans v.symm)
 .refine gi (f a) λx g d c=>?_
  rw [d]
  exact (b.rep x c).2.2
theorem Br.rowAt (b:Br r aq aO C aP a8) (d:aP.length=C.length) (c:aD∈aP):∃x,aD.map (·.1)=sortI ((r.at x).map (·.1)):=by
 refine j_ (eZ.mp c) λj a=>?_
 have e:=df (d▸gy a:j<C.length)
 exact ⟨_,(b.row j aD _ a e).keys⟩
theorem Br.Ta (c:RT r) (b:Br r aq aO C aP a8) (h:aP.length=C.length):RT ⟨aP,a8⟩:=λi g a=>by
 refine eS (ck.mp a) λp f e=>?_
 refine iK (wx f) λk j=>?_
 refine j_ (b.rowAt h j) λx d=>?_
 rw [d] at a
 exact c x g (ip.mp a)
theorem Br.sorted (d:r.Ok) (e:RT r) (b:Br r aq aO C aP a8) (i:aP.length=C.length):∀s∈aP,sortI (s.map (·.1))=s.map (·.1)/\(s.map (·.1)).Nodup/\s.length<=5:=λs h=>by
 refine j_ (b.rowAt i h) λx a=>?_
 have c:=(sortI_perm ((r.at x).map (·.1))).symm.nodup (d.rP x)
 refine iz (by rw [a];exact CT c (d.rP x) λg=>ip) (by rw [a];exact c) ?_
 rw [<-bb (f:=λp:Int×Nat=>p.1),a]
 exact xN c λg j=>e x g (ip.mp j)
theorem H4:∀(b:List Int) (s:List (Int×Nat)) (k:Nat),b.Nodup->(s.map (·.1)).Sublist b->rR k (b.map λg=>(s.lookup g).getD 0)=rR k (s.map (·.2)):=by
 intro b
 induction b with
 |nil=>
  intro s k _ h
  have:s=[]:=jt.mp (List.sublist_nil.mp h)
  rw [this];rfl
 |cons x b m=>
  intro s k f h
  have c:=(eT.mp f)
  induction i:s using ej with
  |nil=>
   have n:=m [] k c.2 (N6 _)
   show (if 0>k+1 then none else rR (max k 0) _)=_
   rw [if_neg (o9 _),SV];exact n
  |cons p a=>
   rw [i] at h
   by_cases j:p.1=x
   .have d:(a.map (·.1)).Sublist b:=by
     rw [eG,j] at h;exact List.cons_sublist_cons.mp h
    have e:b.map (λg=>((p::a).lookup g).getD 0)=b.map λg=>(a.lookup g).getD 0:=fk λg o=>by
     clear f h i d;obtain ⟨y,v⟩:=p
     rw [eM,beq_false_of_ne λq=>c.1 (by rw [<-j];exact q▸o)]
    have l:((p::a).lookup x).getD 0=p.2:=by
     clear f c h i d e;obtain ⟨y,v⟩:=p
     rw [eM,beq_iff_eq.mpr j.symm];rfl
    show (if ((p::a).lookup x).getD 0>k+1 then none else rR (max k (((p::a).lookup x).getD 0)) (b.map λg=>((p::a).lookup g).getD 0))=if p.2>k+1 then none else rR (max k p.2) (a.map (·.2))
    rw [l,e,m a _ c.2 d]
   .have d:((p::a).map (·.1)).Sublist b:=by
     rw [eG] at h⊢
     clear f c i;cases h with
     |cons _ h=>exact h
     |cons_cons _ h=>exact absurd rfl j
    have l:((p::a).lookup x).getD 0=0:=by
     clear f h i j;induction r:(p::a).lookup x with
     |none=>rfl
     |some t=>
      exact absurd (d.subset (nP.mp (by rw [r];rfl))) c.1
    show (if ((p::a).lookup x).getD 0>k+1 then none else rR (max k (((p::a).lookup x).getD 0)) (b.map λg=>((p::a).lookup g).getD 0))=_
    rw [l,if_neg (o9 _),SV]
    exact m (p::a) k c.2 d
theorem B5:∀(l c:List Int),l.Pairwise (·<·)->c.Pairwise (·<·)->(∀g∈l,g∈c)->l.Sublist c:=by
 intro l c d m h
 induction c generalizing l with
 |nil=>rw [zP.mpr λa q=>ee (h a q)];exact .slnil
 |cons x c j=>
  induction l using ej with
  |nil=>exact N6 _
  |cons a l=>
  have f:=jb.mp d
  have i:=jb.mp m
  clear m;rcases eK.mp (h a (.head _)) with e |n
  .rw [e]
   refine zQ _ (j l f.2 i.2 λg b=>?_)
   exact (eK.mp (h g (.tail _ b))).resolve_left λq=>xZ g (by have:=f.1 g b;rwa [e,<-q] at this)
  .refine UI _ (j (a::l) d i.2 λg b=>?_)
   clear d;rcases eK.mp b with e |b
   .rw [e];exact n
   .exact (eK.mp (h g (.tail _ b))).resolve_left λq=>by
     have o:=i.1 a n
     have k:=f.1 g b
     rw [q] at k
     exact xZ _ (zB o k)
theorem yI.nums (a:yI r (sortI a8) aM aD) (c:a8.Nodup) (b:DY a8):rR 0 ([1,2,3,4,5].map λg=>(aD.lookup g).getD 0)=some aM.length:=by
 rw (config:={}) [H4 [1,2,3,4,5] aD 0 (by decide) ?_,a.num]
 rw [a.keys]
 refine B5 _ _ (MZ c) (by decide) λg d=>?_
 have:=b g (ip.mp d)
 simp only [eK,ee,or_false]
 exact Dm this
theorem NS:∀(c f:List Row),(∀r∈c,∀q∈f,jy r.1 q.1=false)->(c.Pairwise λa b=>jy b.1 a.1=false)->mP f c=f++c:=by
 intro j
 induction j with
 |nil=>
  intro f _ _
  exact (eR f).symm
 |cons r c i=>
  intro f g k
  have e:=jb.mp k
  have l:¬f.any (λq=>jy r.1 q.1)=true:=by
   rw [l_,nK]
   exact λq d=>nL.mp (g r (.head _) q d)
  show mP (if _ then _ else _) c=_
  rw [if_neg l,i (f++[r]) (λa h q d=>(eF.mp d).elim (g a (.tail _ h) q) λd=>by rw [dk.mp d];exact e.1 a h) e.2,eC];rfl
theorem P8 (h:Sr bj cM) (e:bj.1≠[]/\cM.1≠[]/\rQ bj=rQ cM):jy (xJ cM).1 (xJ bj).1=false:=by
 refine qX (gf e.1) λx u b=>?_
 refine qX (gf e.2.1) λy v c=>?_
 have g:x=y:=by have:=e.2.2;unfold rQ at this;rw [b,c] at this;exact this
 refine nL.mpr λi=>?_
 have a:=gK.mp i
 unfold xJ at a
 rw [b,c] at a
 have a:u<+:v:=a
 have j:=a.length_le
 rcases h with h |⟨f,d⟩
 .rw [b,c] at h
  exact jg _ (eh (Nat.lt_of_succ_lt_succ h) j)
 .rw [b,c] at f d
  have:=a.eq_of_length (Nat.succ.inj f)
  rw [g,this] at d
  exact oe _ d
theorem xS (d:B4 a7) (e:(aQ.map (·.1)).Nodup) (h:∀w l,(w,l)∈aQ↔(p::w,l)∈a7):(after a7 p).Perm aQ:=by
 refine (oa ?_ ?_).mpr λc=>?_
 .exact l' (S:=λa b=>a≠b) (λ{a b} h q=>oe b.1 (by rw [q] at h;exact h)) (d.after [p]).CQ
 .exact l' (S:=λa b=>a≠b) (λ{a b} h q=>h (congrArg _ q)) (gh.mp e)
 .exact (jU (bj:=c)).trans (h c.1 c.2).symm
theorem RZ (d:vn aU a) (g:Jl aU a7):∀p∈aU,(after a7 p.1).Perm (live p.2)/\(after a7 p.1).Pairwise λk b=>k.1<b.1:=λp j=>by
 have f:=g.P4 d
 have h:aU.lookup p.1=some p.2:=by
  have c:=d.keys
  refine qX (m_ j) λn m e=>?_
  rw [e] at c⊢
  rw [b_,eP] at c
  refine gS.mpr (nA n m rfl (λq o=>?_))
  rw [bne_iff_ne]
  exact λi=>c.2.2 _ (fC o) p.1 (.head _) i.symm
 refine ⟨xS f (Jk p.2) λw l=>?_,(f.after [p.1]).CQ⟩
 rw [g.perm.mem_iff,Bv d.keys,h];rfl
theorem H5 (B:aQ.Perm a7) (d:B4 a7) (f:∀r∈a7,r.1≠[]) (H:aQ.Pairwise Sr):∀p∈tabOf aQ,(after a7 p.1).Perm (live p.2)/\(after a7 p.1).Pairwise λa b=>a.1<b.1:=λp O=>by
 have A:p.2=(aQ.filter λr=>decide (rQ r=p.1)).map xJ:=D4 aQ p O
 have c:∀r,r∈aQ↔r∈a7:=λr=>B.mem_iff
 have D:live p.2=p.2:=by
  rw [A]
  refine NS _ [] (λ_ _ _ h=>absurd h ee) (gh.mpr ?_)
  refine x_ (λ{a b} m z I=>?_) (H.filter _)
  refine iK (gA.mp m) λg t=>?_
  refine iK (gA.mp z) λi o=>?_
  exact P8 I (iz (f a ((c a).mp g)) (f b ((c b).mp i)) ((of_decide_eq_true t).trans (of_decide_eq_true o).symm))
 rw [D]
 have L:∀w l,(w,l)∈p.2↔(p.1::w,l)∈a7:=λw l=>by
  rw [A,ck]
  constructor
  .intro J;refine eS J λr G e=>?_
   refine iK (gA.mp G) λC K=>?_
   refine qX (gf (f r ((c r).mp C))) λx u n=>?_
   have j:x=p.1:=by have:=of_decide_eq_true K;unfold rQ at this;rw [n] at this;exact this
   have P:u=w:=by have:=(k7 e).1;rw [n] at this;exact this
   have E:r.2=l:=(k7 e).2
   rw [<-j,<-P,<-n,<-E];exact (c r).mp C
  .intro h
   exact ei _ (gA.mpr ⟨(c _).mpr h,decide_eq_true rfl⟩) rfl
 refine ⟨xS d ?_ L,(d.after [p.1]).CQ⟩
 have Q:=(d.after [p.1]).CQ
 rw [A,er]
 refine yQ ?_ λa m b z e=>?_
 .have F:a7.Nodup:=l' (S:=λa b=>a≠b) (λ{a b} h q=>oe b.1 (by rw [q] at h;exact h)) d.CQ
  exact (B.symm.nodup F).filter _
 .refine iK (gA.mp m) λg t=>?_
  refine iK (gA.mp z) λi o=>?_
  refine qX (gf (f a ((c a).mp g))) λx u s=>?_
  refine qX (gf (f b ((c b).mp i))) λy v k=>?_
  have j:x=p.1:=by have:=of_decide_eq_true t;unfold rQ at this;rw [s] at this;exact this
  have M:y=p.1:=by have:=of_decide_eq_true o;unfold rQ at this;rw [k] at this;exact this
  have N:u=v:=by
   have:a.1.drop 1=b.1.drop 1:=e
   rw [s,k] at this;exact this
  exact d.uniq ((c a).mp g) ((c b).mp i) (by rw [s,k,j,M,N])
theorem KC {S:Int->List Row} (d:a8.Nodup) (c:cp.Nodup) (e:∀k,S k≠[]->k∈a8/\k∈cp):
 (((sortI a8).map λk=>(k,S k)).filter λp:Int×List Row=>!decide (p.2=[]))=((sortI cp).map λk=>(k,S k)).filter λp:Int×List Row=>!decide (p.2=[]):=by
 rw [uo,uo]
 refine congrArg _ (rA (λa b _ _ d c=>u_ d c) ((sI a8).filter _) ((sI cp).filter _) ((oa (((sortI_perm a8).symm.nodup d).filter _) (((sortI_perm cp).symm.nodup c).filter _)).mpr λg=>?_))
 rw [gA,gA,ip,ip]
 constructor
 .intro h;refine iK h λa b=>?_
  exact ⟨(e g (by have:(!decide (S g=[]))=true:=b;rw [fK,decide_eq_false_iff_not] at this;exact this)).2,b⟩
 .intro f;refine iK f λa b=>?_
  exact ⟨(e g (by have:(!decide (S g=[]))=true:=b;rw [fK,decide_eq_false_iff_not] at this;exact this)).1,b⟩
theorem Ug (i:vn aU a) (c:Jl aU a7) (h:after a7 p≠[]):p∈aU.map (·.1):=by
 refine j_ (i7 _ h) λr f=>?_
 refine eS (oq.mp (c.perm.mem_iff.mp (jU.mp f))) λg b d=>?_
 refine eS (ck.mp d) λq _ e=>?_
 exact (fo (k7 e).1).1▸fC b
theorem KD (a:aQ.Perm a7) (h:after a7 p≠[]):p∈(tabOf aQ).map (·.1):=by
 refine j_ (i7 _ h) λr b=>?_
 exact (sM (k:=rQ) (x:=xJ) aQ).2 p|>.mpr (ei _ (a.mem_iff.mpr (jU.mp b)) rfl)
theorem NT (b:aQ.Perm a7) (o:a7.length<=5) (h:∀r∈a7,r.1≠[]/\DY r.1/\r.1.length<=4/\10<=r.2):vn (tabOf aQ) 5 where
 keys:=(sM aQ).1
 gl g d:=by
  refine iQ g (((sM (k:=rQ) (x:=xJ) aQ).2 g).mp d) λr c=>?_
  refine mV (h r (b.mem_iff.mp c)) λf a _=>?_
  refine qX (gf f) λs u e=>?_
  exact a _ (by unfold rQ;rw [e];exact .head _)
 rows p l q i:=by
  have n:p.2=_:=D4 (k:=rQ) (x:=xJ) aQ p l
  rw [n] at i
  refine iQ q (ck.mp i) λr c=>?_
  refine wW (h r (b.mem_iff.mp (gA.mp c).1)) λf a j m=>?_
  exact ⟨λg d=>a g (vH d),by show (r.1.drop 1).length<=3;rw [ey];exact j8 j,m⟩
 KX:=by
  have:((tabOf aQ).map λp=>p.2.length).sum=aQ.length:=I6 aQ
  rw [this,b.length_eq];exact o
 ne:=Ni aQ
theorem KG (m:B4 a7):∃V:List Row,V.Perm a7/\V.Pairwise Sr:=by
 let f:Row->Row->Bool:=λa b=>decide (b.1.length<a.1.length\/(a.1.length=b.1.length/\a.1<=b.1))
 have e:=wI a7 f
 refine ei _ e ?_
 have d:=tK (le:=f) (λa b c e d=>?_) (λa b=>?_) a7
 .have l:(a7.mergeSort f).Pairwise λa b=>a.1≠b.1:=gh.mp ((e.map λr:Row=>r.1).symm.nodup (Ej m.CQ))
  refine (uZ.mpr ⟨d,l⟩).imp λ{a b} h=>?_
  rcases of_decide_eq_true h.1 with i |⟨i,k⟩
  .exact .inl i
  .exact .inr ⟨i,gg λn=>h.2 (N8 k (SW.mp n))⟩
 .refine decide_eq_true ?_
  rcases of_decide_eq_true e with e |⟨e,o⟩
  .rcases of_decide_eq_true d with d |⟨d,_⟩
   .exact .inl (gF d e)
   .exact .inl (d▸e)
  .rcases of_decide_eq_true d with d |⟨d,j⟩
   .exact .inl (e▸d)
   .exact .inr ⟨e.trans d,Q0 o j⟩
 .rw [j1,decide_eq_true_iff,decide_eq_true_iff]
  rcases zy a.1.length b.1.length with h |h |h
  .exact .inr (.inl h)
  .rcases Q1 a.1 b.1 with g |g
   .exact .inl (.inr ⟨h,g⟩)
   .exact .inr (.inr ⟨h.symm,g⟩)
  .exact .inl (.inl h)
noncomputable def wD (o:AO):Prop:=∀cl k v,o≠.list [.ref cl,.int k,.int v]
noncomputable def BF (st st':AS):Prop:=∀x o,wD o->st x=some o->st' x=some o
theorem R0 (h:eD b q):BF b q:=λx o _ e=>h x o e
theorem Gu (h:xI b a d o) (g:BY b q a):BF b q:=λx i f e=>by
 by_cases c:x=a
 .obtain ⟨k,v,cs,h⟩:=h
  rw [c,h.obj] at e
  exact absurd (d3 e).symm (f _ _ _)
 .exact (g x c).trans e
theorem El (a:List (AV×AV)):wD (.dict a):=λ_ _ _ h=>nomatch h
theorem z5 (c a:Nat) (b:List (Nat×AV)):wD (.inst c a b):=λ_ _ _ h=>nomatch h
theorem z6 (a:List Nat):wD (.list (a.map .ref)):=λb k v h=>by
 have h:=AO.list.inj h
 match a,h with
 |[],h=>contradiction
 |[_],h=>(injection h;contradiction)
 |_::_::_,h=>have:=(fo (fo h).2).1;contradiction
theorem z7 (a:List Int):wD (.list (a.map .int)):=λb k v h=>by
 have h:=AO.list.inj h
 match a,h with
 |[],h=>contradiction
 |_::_,h=>have:=(fo h).1;contradiction
theorem P9 (f:h->List AV) (b:List h):wD (.list (b.map λx=>.tup (f x))):=λc k v a=>by
 have a:=AO.list.inj a
 match b,a with
 |[],a=>contradiction
 |_::_,a=>have:=(fo a).1;contradiction
theorem Jn (a:List Row):wD (.list (a.map ie)):=P9 (λr:Row=>[tI r.1,.int r.2]) a
theorem ke.BF (c:BF b q) (h:ke b C aP):ke q C aP:=by
 induction h with
 |nil=>exact .nil
 |cons h _ a=>exact .cons (c _ _ (El _) h) a
theorem mX.BF (h:mX b a r) (c:BF b q):mX q a r:=let ⟨d,l,e,f,h⟩:=h;⟨d,l,e,f,c _ _ (z5 _ _ _) h.obj,c _ _ (z6 _) h.steps,c _ _ (z7 _) h.ends,h.AP.BF c⟩
theorem kj.BF (h:kj b a aK) (c:BF b q):kj q a aK:=⟨c _ _ (El _) h.dict,λe d=>c _ _ (Jn _) (h.ls e d)⟩
theorem F6.BF (h:F6 b a r aD aM) (e:BF b q):F6 q a r aD aM:=by
 obtain ⟨f,m,g,o,s,h⟩:=h
 obtain ⟨j,d,n,k⟩:=h.cls
 refine ⟨f,m,g,o,s,e _ _ (z5 _ _ _) h.obj,⟨j,d,e _ _ (z5 _ _ _) n,e _ _ (El _) k⟩,e _ _ (z6 _) h.rows,h.len,λi p l=>e _ _ ?_ (h.row i p l),e _ _ (z7 _) h.ends,h.col⟩
 have:=z7 (aM.map λc=>c.getD i (-1))
 rwa [er] at this
theorem wF (f:∀x∈j,Plain x) (q:Al i e b g λv s=>∃c,v= .ref c/\s c=some (.list j)) (n:∀s,eD b s->Al i e s D λv l=>∃c,v= .ref c/\l c=some (.list j)):At i e b (.cmp g .ne D) false:=
 wq (AW q λv h p a=>by
  refine jj v a λc o=>?_
  refine qp (n h p) λv t m a=>?_
  refine jj v a λd r=>?_
  exact λQ k=>.ne (.list (m _ _ o) r f f true ⟨λ_=>rfl,λ_=>rfl⟩) (k _ rfl))
theorem NU (c:Plain l) (h:Al i e b g λv _=>v=l) (d:∀s,eD b s->Al i e s D λv _=>v=l):At i e b (.cmp g .ne D) false:=
 wq (AW h λv j f a=>by
  subst a
  refine qp (d j f) λv n m a=>?_
  clear f h d m;subst a
  exact λQ k=>.ne (.plain c c true ⟨λ_=>rfl,λ_=>rfl⟩) (k _ rfl))
theorem sR (h:gN b j l q):∃c,l= .ref c/\q c=some (.list j):=eS h λc e h=>(ei c e h.at_)
theorem uY (R:List Row):∀x∈R.map ie,Plain x:=λx a=>by
 refine iQ x (ck.mp a) λr _=>?_;exact CX 4 r
theorem H6 (K:List (Int×List Row)):Plain (Nb K):=.tup _ _ λx b=>by
 refine iQ x (ck.mp b) λp _=>?_
 exact .tup _ _ λy a=>by
  cases a with
  |head=>exact .int _ _
  |tail _ a=>
   cases a with
   |head=>exact tG 1 p.2
   |tail _ a=>exact (ee a).elim
theorem NV (h:VE PG i g e b λv b=>VE PG i D e b λl b=>VE PG i aL e b λh b=>G7 b n v l h):VE PG i (.tZ g D aL) e b n:=h
theorem P_ (h:VE PG i g e b λv b=>∀c,b.free c->n (.ref c) (b.set c (.list [v,l,af]))):VE PG i (.lst (.cons g (.cons (.cst l) (.cons (.cst af) .nil)))) e b n:=h
theorem NW (h:∀p d s,xI s p d 0->jo PG (eE PG (a+1)) ah (e.set 1 (some (.ref p))) s ag) (y:e[0]? =some (some (.BM a8))) (D:a8.length<=63):
 jo PG (eE PG (a+1)) (.cons (.asg 1 (.lst (.cons (.bin .add (.comp [none,none] (.call (.cst (.bi 9)) (.cons (.var 1) .nil)) [1] (.tZ (.var 0) (.cst .none) (.cst (.int 40))) .nil .nil) (.lst (.cons (.cst (.int 26)) (.cons (.cst (.int 17)) .nil)))) (.cons (.cst (.int 0)) (.cons (.cst (.int 0)) .nil))))) ah) e b ag:=by
 have r:Al (eE PG (a+1)) e b (.tZ (.var 0) (.cst .none) (.cst (.int 40))) (gN b ((a8.take 40).map .int)):=λQ g=>by
  refine NV (a5 y _ (dt _ (dt _ (.BM (Hz (a:=40)) ?_))))
  rw [<-qh]
  exact λc m=>g _ _ (mU m.1) (ei c rfl ((fM m).own (ec _)))
 have j:(a8.take 40).length<=40:=by rw [fR];exact g7 _ _
 refine je (P_ (yH (xD AV.int (a_ j (by unfold fE;decide)) r (λi _ z _=>(ei [none,some (.int i)] rfl (jG (xx (l:=.bi 9) (j:=[.int i]) (af:=.int i) dt (iJ (a5 rfl)) λQ g=>jI (a:=a) (.mk (.mk g))) rfl))) _ λv z B x=>?_)))
 refine jj v x λc1 u=>?_
 refine si (iL dt dt) λc2 C l=>add_lists (l.le _ _ u.at_) l.at_ (by rw [bb];exact a_ (gz j _) (by unfold fE;decide)) λd A q=>?_
 intro p t
 have f:=fM (ay:=.list [.ref d,.int 0,.int 0]) t
 refine h p d _ ⟨0,0,a8.take 40++[26,17],f.at_,?_,f.ne q.at_,by rw [bh];exact fz _,eJ _⟩
 rw [f.le _ _ q.at_,b_];rfl
structure vG (s:AS) (p cl N c2 d1 d2 c3 t1 t2 t4 c5 t6 tb:Nat) (E1 E2:Ent) (A1 A2 B:Au) (W:List Row) (ss:List (Int×Nat)) (C:List g9):Prop where
 R1:xI s p cl N
 l2:s c2=some (.list ([d1,d2].map .ref))
 NX:kj s d1 E1
 Uh:kj s d2 E2
 l3:s c3=some (.list ([t1,t2].map .ref))
 UT:mX s t1 A1
 Wf:mX s t2 A2
 HE:∃dx,s t4=some (.inst 5 dx [(54,.ref d1)])
 wl:s c5=some (.list (W.map ie))
 lean:mX s t6 B
 st:F6 s tb B ss C
variable {cu cw cy cz cP:Nat} {bW:Ent} {cA:Au}
theorem vG.to (h:vG b a d o ak aI bc bJ bU cu cw cy cz cP aK bW r bV cA a7 aD aM) (c:BF b q) (g:xI q a d I):vG q a d I ak aI bc bJ bU cu cw cy cz cP aK bW r bV cA a7 aD aM:=
 ⟨g,c _ _ (z6 _) h.l2,h.NX.BF c,h.Uh.BF c,c _ _ (z6 _) h.l3,h.UT.BF c,h.Wf.BF c,j_ h.HE λf e=>⟨f,c _ _ (z5 _ _ _) e⟩,c _ _ (Jn _) h.wl,h.lean.BF c,h.st.BF c⟩
theorem vG.le (h:vG b a d o I ak aI bc bJ bU cu cw cy cz aK bW r bV cA a7 aD aM) (c:eD b q):vG q a d o I ak aI bc bJ bU cu cw cy cz aK bW r bV cA a7 aD aM:=h.to (R0 c) (h.R1.keep c)
theorem vG.same (h:vG b a d o ak aI bc bJ bU cu cw cy cz cP aK bW r bV cA a7 aD aM) (c:BY b q a) (e:xI q a d I):vG q a d I ak aI bc bJ bU cu cw cy cz cP aK bW r bV cA a7 aD aM:=h.to (Gu h.R1 c) e
structure Ui (E1 E2:Ent) (A1 A2 B:Au) (W:List Row) (ss:List (Int×Nat)) (C:List g9):Prop where
 t1:vn (strip E1) 5
 t2:vn (strip E2) 5
 w1:Jl (strip E1) W
 g1:∃L,tT A1 L/\L 0=W
 g2:∃W2 L,tT A2 L/\L 0=W2/\Jl (strip E2) W2
 gb:∃L,tT B L/\L 0=W
theorem KH (m:Ev i e b g (.ref a)) (l:b a=some (.list j)) (f:∀x∈j,Plain x):At i e b (.cmp g .ne (.lst .nil)) (!decide (j=[])):=
 wq λQ k=>m _ λc d=>.ne (.list ((fM d).le _ _ l) (fM d).at_ f (λ_ h=>absurd h ee) _ decide_eq_true_iff) (k _ _ (mU d.1) rfl)
theorem NY (h:VE PG i g e b λv b=>VE PG i D e b λk b=>zD b n v k):VE PG i (.sub g D) e b n:=h
theorem Gv (l:Ev i e b g (.ref a)) (k:b a=some (.list j)):Al i e b (.tZ g (.cst .none) (.cst (.int d))) (gN b (j.take d)):=λQ h=>NV (l _ (dt _ (dt _ (.list k Hz λc f=>h _ _ (mU f.1) (ei c rfl ((fM f).own (ec _)))))))
theorem Gw (O:vG b d o I ak aI bc bJ bU cu cw cy cz cP aK bW r bV cA a7 aD aM) (E:I<10000) (Z:∀q∈a7,q.1.length<=4) (kC:a7.length<=5) {kB g:Option AV} (h:∀T (M:List Int) C g,vG C d o (I+12) ak aI bc bJ bU cu cw cy cz cP aK bW r bV cA a7 aD aM->C T=some (.list (M.map .int))->M.length<=100->jo PG (eE PG (a+6)) ah [some l,some (.ref d),some (.ref ak),some (.ref bJ),some (.ref cw),some (.ref cy),some (.ref cz),some (.ref cP),some af,some b7,some (.ref T),g] C ag):
 jo PG (eE PG (a+6)) (.cons (.asg 10 (.comp [none,none,some 1] (.bin .add (.cst (.int 1)) (.call (.cst (.fn 72)) (.cons (.var 2) (.cons (.cst (.int 5)) .nil)))) [1] (.call (.cst (.bi 4)) (.cons (.call (.cst (.fn 72)) (.cons (.var 1) (.cons (.cst (.int 8)) .nil))) .nil)) .nil .nil)) (.cons (.iff (.cmp (.var 5) .ne (.lst .nil)) (.cons (.asg 10 (.bin .add (.bin .add (.var 10) (.call (.cst (.bi 10)) (.cons (.sub (.sub (.var 5) (.call (.cst (.fn 72)) (.cons (.var 1) (.cons (.call (.cst (.bi 0)) (.cons (.var 5) .nil)) .nil)))) (.cst (.int 0))) .nil))) (.tZ (.var 10) (.cst .none) (.cst (.int 1))))) .nil) .nil) ah))
  [some l,some (.ref d),some (.ref ak),some (.ref bJ),some (.ref cw),some (.ref cy),some (.ref cz),some (.ref cP),some af,some b7,kB,g] b ag:=by
 refine je (zY (jJ (g6 dt (iL (a5 rfl) dt) (oY (a:=a+2) (ak:=8) O.R1 (gF E (by decide)) (by decide) (by decide) λkI s1 f U kx=>tB (a:=a+5) (eA (gF f (by decide))) ?_))))
 have kF:=O.same kx U
 refine zl U (Xd E f) (λkD=>(ei [none,some kD,some (.ref d)] rfl (λkH Q N' kz W kG=>wu dt (g6 dt (iL (a5 rfl) dt) (oY (a:=a+2) (ak:=5) kz W (by decide) (by decide) λp s l af c=>.int rfl (kG p s l af c)))))) λw s2 s3 Tj t h5 kl kn D=>?_
 have u:vG s3 d o (I+9) ak aI bc bJ bU cu cw cy cz cP aK bW r bV cA a7 aD aM:=(kF.same kn (kl.mono (Xe f))).le D.le
 refine pF (KH (a5 rfl) u.wl (uY a7)) λR j=>⟨λH=>?_,λ_=>s_end (h Tj w R _ ((u.le j).to (λ_ _ _ e=>e) ((u.le j).R1.mono (by exact d5 (by decide) _))) (j _ _ D.at_) (by exact n1 t (a_ (eA f) (by decide))))⟩
 have y:=u.le j
 have ky:0<a7.length:=by
  rw [fK,decide_eq_false_iff_not,jt] at H
  exact oG.mpr H
 have X:=j _ _ D.at_
 have kq:Ev (eE PG (a+6)) [some l,some (.ref d),some (.ref ak),some (.ref bJ),some (.ref cw),some (.ref cy),some (.ref cz),some (.ref cP),some af,some b7,some (.ref Tj),g] R (.call (.cst (.bi 0)) (.cons (.var 5) .nil)) (.int a7.length):=by
  have:=jd (a:=a+5) (e:=[some l,some (.ref d),some (.ref ak),some (.ref bJ),some (.ref cw),some (.ref cy),some (.ref cz),some (.ref cP),some af,some b7,some (.ref Tj),g]) (a5 (a:=5) rfl) (f7 y.wl)
  rwa [bb] at this
 refine je (yH (yH (a5 rfl _ (jJ (NY (NY (a5 rfl _ (g6 dt (iL (a5 rfl) kq) (oY (a:=a+2) (ak:=a7.length) y.R1 (by exact eh (qE E 9) (by decide)) ky (by exact c4 kC (by decide)) λp s5 K km S=>?_)))))))))
 have B:=y.same S km
 have Y:(a7.map ie)[p]? =some (ie a7[p]):=by rw [ed,df K];rfl
 have G:=Z _ (fN K)
 generalize a7[p]=q at*
 have N:=Gu y.R1 S _ _ (z7 w) X
 refine CI B.wl Y (dt _ (FA (a:=0) (l:=tI q.1) rfl (F9 (a:=a+5) λc6 s6 z=>add_lists (z.le _ _ N) z.at_ ?_ λc7 s7 A=>?_)))
 .rw [bb,bb];unfold fE;exact a_ (fO (n1 t (eA f)) G) (by decide)
 rw [<-b_] at A
 have ku:=A.le _ _ (z.le _ _ N)
 refine Gv (d:=1) (a5 rfl) ku _ λv s8 V hv=>?_
 refine jj v hv λc8 o8=>?_
 have P:=o8.at_
 rw [<-qh] at P
 refine add_lists (V _ _ A.at_) P ?_ λc9 L F=>?_
 .rw [bb,bb,bh,fR];unfold fE;exact a_ (fO (fO (n1 t (eA f)) G) (g7 _ _)) (by decide)
 rw [<-b_] at F
 have J:eD s5 L:=b4 z.le (b4 A.le (b4 V F.le))
 refine h c9 _ L _ ((B.le J).to (λ_ _ _ e=>e) ((B.le J).R1.mono (by exact d5 (by decide:10<=12) I))) F.at_ ?_
 rw [bh,bh,fR];exact a_ (fO (fO (n1 t (eA f)) G) (g7 _ _)) (by decide)
theorem KI (m:Al i e b g bw) (h:∀v s,eD b s->bw v s->Ev i e s D af/\Cl i l [v,af] s n):Al i e b (.call (.cst l) (.cons g (.cons D .nil))) n:=λQ f=>m _ λv s a c=>(h v s a c).1 _ ((h v s a c).2 Q λu j k d=>f u j (b4 a k) d)
theorem sS (a:List Int):∀x∈a.map AV.int,Plain x:=wm a
theorem KJ (O:vG b d o I ak aI bc bJ bU cu cw cy cz cP aK bW r bV cA a7 aD aM) (g:Ui aK bW r bV cA a7 aD aM) {K:Option AV} {Y H:Nat} (W:b Y=some (.list (a8.map .int))) (kl:a8.length<=100) (h:∀U kx K,vG U d o I ak aI bc bJ bU cu cw cy cz cP aK bW r bV cA a7 aD aM->ag .next [some l,some (.ref d),some (.ref ak),some (.ref bJ),some (.ref cw),some (.ref cy),some (.ref cz),some (.ref cP),some af,some (.int H),kx,K] U):
 jo PG (eE PG (a+11)) (.cons (.asg 11 (.call (.cst (.fn 75)) (.cons (.tZ (.var 2) (.cst .none) (.cst (.int 1))) (.cons (.var 10) .nil))))
  (.cons (.iff (.or (.cmp (.call (.cst (.fn 53)) (.cons (.sub (.var 3) (.cst (.int 0))) (.cons (.var 10) .nil))) .ne (.var 11)) (.or (.cmp (.call (.cst (.fn 65)) (.cons (.var 7) (.cons (.var 10) .nil))) .ne (.var 11)) (.cmp (.call (.cst (.fn 77)) (.cons (.var 6) (.cons (.var 5) (.cons (.var 10) .nil)))) .ne (.var 11)))) (.cons (.ret (.cst (.bool false))) .nil) .nil)
  (.cons (.iff (.and (.cmp (.var 9) .eq (.cst (.int 0))) (.cmp (.call (.cst (.fn 76)) (.cons (.var 4) (.cons (.var 10) .nil))) .ne (.var 11))) (.cons (.ret (.cst (.bool false))) .nil) .nil)
  (.cons (.iff (.cmp (.call (.cst (.fn 52)) (.cons (.var 3) (.cons (.var 10) .nil))) .ne (.call (.cst (.fn 75)) (.cons (.var 2) (.cons (.var 10) .nil)))) (.cons (.ret (.cst (.bool false))) .nil) .nil) .nil))))
  [some l,some (.ref d),some (.ref ak),some (.ref bJ),some (.ref cw),some (.ref cy),some (.ref cz),some (.ref cP),some af,some (.int H),some (.ref Y),K] b ag:=by
 refine eS g.g1 λL1 z S=>?_
 refine jS g.g2 λW2 L2 g2 kC w2=>?_
 refine eS g.gb λLB D X=>?_
 have u:a8.length<=10000:=a_ kl (by decide)
 have ky:a7.length<=5:=by rw [g.w1.perm.length_eq];exact a_ (rj _) g.t1.KX
 have e1:iF (fX [r]) a8.length a8=iF (i4 [strip aK]) a8.length a8:=ro (λs x=>(Jm z S g.w1 g.t1 x).trans (uX _ _).symm) _ _
 have R:iF (fX [cA]) a8.length a8=iF (i4 [strip aK]) a8.length a8:=ro (λs x=>(Jm D X g.w1 g.t1 x).trans (uX _ _).symm) _ _
 have ef:iF (o6 (strip aK)) a8.length a8=iF (i4 [strip aK]) a8.length a8:=ro (λs _=>(uX _ _).symm) _ _
 have e2:iF (fX [r,bV]) a8.length a8=iF (i4 [strip aK,strip bW]) a8.length a8:=ro (λs x=>NQ z S g.w1 g.t1 g2 kC w2 g.t2 x) _ _
 have km:iF (i4 ([((aI,aK):Nat×Ent)].map λd=>strip d.2)) a8.length a8=iF (i4 [strip aK]) a8.length a8:=rfl
 have kz:iF (i4 ([((aI,aK):Nat×Ent),(bc,bW)].map λd=>strip d.2)) a8.length a8=iF (i4 [strip aK,strip bW]) a8.length a8:=rfl
 refine yz (KI (Gv (d:=1) (a5 rfl) O.l2) (n:=λv s=>∃c,v= .ref c/\eD b s/\s c=some (.list ((iF (i4 [strip aK]) a8.length a8).map .int))) λv s1 p f=>⟨a5 rfl,?_⟩) λv s1 p f=>?_
 .refine jj v f λc kB=>?_
  have h1:s1 c=some (.list ([((aI,aK):Nat×Ent)].map λd=>.ref d.1)):=kB.at_
  exact uP (xO (a:=a+7) h1 (λq y=>by rw [dk.mp y];exact O.NX.le p) (p _ _ W) u) λv s2 j f=>by
   refine jj v f λc' o'=>?_
   exact gq c' rfl (b4 p j) (km▸o'.at_)
 refine gi f λA kn _ E=>?_;subst kn
 have w:=O.le p
 have G:=p _ _ W
 generalize iF (i4 [strip aK]) a8.length a8=F at*
 refine pF (aw:=false||(false||false)) (FG (wF (sS F) (λQ L=>g6 dt (iL (fq (d:=0) (a5 rfl) w.l3 dt rfl) (a5 rfl)) (BX (by exact c_ 7 (a+4)) w.UT z.ok G u λc J=>L _ _ (mU J.1) (ei c rfl (by rw [e1];exact gW _ _ _)))) λs i=>jG (a5 rfl) (ei A rfl (i _ _ E))) λ_ s2 j=>
  FG (wF (sS F) (gw dt (iL (a5 rfl) (a5 rfl)) (uP (zI (a:=a+5) (w.le j).st D.ok (j _ _ G) u) λv s3 _ f=>by rw [R] at f;exact sR f)) λs i=>jG (a5 rfl) (ei A rfl (i _ _ (j _ _ E)))) λ_ s3 B=>
   wF (sS F) (gw dt (vE (a5 rfl) (a5 rfl) (a5 rfl)) (uP (D6 (a:=a+1) (w.le (b4 j B)).lean D.ok (w.le (b4 j B)).wl ky (b4 j B _ _ G) (c4 kl (by decide)) λkq e _=>X▸NR D kq) λv s4 _ f=>by rw [P6,R] at f;exact sR f)) λs i=>jG (a5 rfl) (ei A rfl (i _ _ (b4 j B _ _ E)))) λs4 N=>⟨(by intros;contradiction),λ_=>s_end ?_⟩
 have M:=w.le N
 have Z:=N _ _ G
 refine j_ M.HE λkD ku=>?_
 refine pF (aw:=decide ((H:Int)=0)&&false) (DU (pv (f9 (fU (a5 rfl) dt (eq_int rfl)))) λ_ s5 C=>wF (sS F) (gw dt (iL (a5 rfl) (a5 rfl)) (uP (yN (a:=a) (C _ _ ku) (M.NX.le C) g.t1 (C _ _ Z) u) λv s6 _ f=>by rw [ef] at f;exact sR f)) λs i=>jG (a5 rfl) (ei A rfl (i _ _ (C _ _ (N _ _ E))))) λs6 V=>⟨λht=>(by rw [Ql] at ht;contradiction),λ_=>s_end ?_⟩
 have m:=M.le V
 have T:=V _ _ Z
 refine pF (aw:=false) (wF (sS (iF (i4 [strip aK,strip bW]) a8.length a8)) (λQ L=>g6 dt (iL (a5 rfl) (a5 rfl)) (uO (C:=[bU,cu]) (dh:=[r,bV]) (by exact c_ 6 (a+5)) m.l3 (.cons m.UT z.ok (.cons m.Wf g2.ok .nil)) T u λc J=>L _ _ (mU J.1) (ei c rfl (by rw [e2];exact gW _ _ _)))) λs i=>gw dt (iL (a5 rfl) (a5 rfl)) (uP (xO (a:=a+7) (A:=[(aI,aK),(bc,bW)]) (i _ _ m.l2) (λq y=>?_) (i _ _ T) u) λv s8 _ f=>by rw [kz] at f;exact sR f)) λs7 l7=>⟨(by intros;contradiction),λ_=>s_end ?_⟩
 .rcases eK.mp y with rfl |y
  .exact m.NX.le i
  .rw [dk.mp y];exact m.Uh.le i
 .exact h s7 _ _ (m.le l7)
theorem Qa (h:VE PG i g e b λa b=>VE PG i D e b λd b=>∀c,b.free c->n (.ref c) (b.set c (.list [a,d]))):VE PG i (.lst (.cons g (.cons D .nil))) e b n:=h
theorem FL.BF (h:FL b q a) (c:xI b a d o):BF b q:=λx g f e=>h x g (λi=>by
 obtain ⟨k,v,cs,c⟩:=c
 rw [i,c.obj] at e
 exact f _ _ _ (d3 e).symm) e
theorem Gx (t:xI b d o 0) (m:e[1]? =some (some (.ref d))) (h:∀c2 g f i k s,xI s d o 72->kj s g i->kj s f k->vn (strip i) 5->vn (strip k) 5->s c2=some (.list ([g,f].map .ref))->jo PG (eE PG (a+7)) ah (e.set 2 (some (.ref c2))) s ag):
 jo PG (eE PG (a+7)) (.cons (.asg 2 (.lst (.cons (.call (.cst (.fn 73)) (.cons (.var 1) .nil)) (.cons (.call (.cst (.fn 73)) (.cons (.var 1) .nil)) .nil)))) ah) e b ag:=by
 refine je (Qa (g6 dt (iJ (a5 m)) (vR (a:=a) t (by decide) λg i A y l q v=>g6 dt (iJ (a5 m)) (vR (a:=a) l (by decide) λf k z r x p w c u=>?_))))
 have j:=fM (ay:=.list [.ref g,.ref f]) u
 exact h c g f i k _ (x.keep j.le) ((q.tab.BF (r.BF l)).le j.le) (p.tab.le j.le) v w j.at_
theorem H7 (G:e[2]? =some (some (.ref d))) (z:b d=some (.list ([o,I].map .ref))) (Y:kj b o aK) (X:kj b I bW) (kl:vn (strip aK) 5) (S:vn (strip bW) 5) (h:∀H p l s,eD b s->s H=some (.list ([p,l].map .ref))->mX s p (jl A8 (nv (strip aK)))->mX s l (jl A8 (nv (strip bW)))->jo PG (eE PG (a+6)) ah (e.set 3 (some (.ref H))) s ag):
 jo PG (eE PG (a+6)) (.cons (.asg 3 (.comp [none,none] (.call (.cst (.fn 47)) (.cons (.call (.cst (.cls 5)) (.cons (.var 1) .nil)) .nil)) [1] (.var 2) .nil .nil)) ah) e b ag:=by
 refine je (DV (a5 G) (tv (.list d _) [(o,aK),(I,bW)] (λq=>.ref q.1) (λQ=>gH z) (λD w s=>eD b s/\∃f:List Nat,w=f.map .ref/\f.length=D.length/\∀(i:Nat) t q,f[i]? =some t->D[i]? =some q->mX s t (jl A8 (nv (strip q.2)))) ⟨(ec _),[],rfl,rfl,(by intros;contradiction)⟩ (λ_ _ _ h=>h.1 _ _ z) ?_ ?_))
 .intro D q r' w s x T K F;refine G6 w T λr f j m=>?_
  have J:kj b q.1 q.2/\vn (strip q.2) 5:=by
   have:=mid x
   clear G z h x F r j m;rcases eK.mp this with rfl |this
   .exact ⟨Y,kl⟩
   .rw [dk.mp this];exact ⟨X,S⟩
  refine ei [none,some (.ref q.1)] rfl (Eb (jJ (g6 dt (iJ (a5 rfl)) (tr (c_ 4 _) λkn N W _ _=>?_))))
  have A:=fM (ay:=.inst 5 N [(54,.ref q.1)]) W
  refine D3 (a:=a) (n:=λv M=>∃t,v= .ref t/\mX M t (jl A8 (nv (strip q.2)))) A.at_ ((J.1.le r).le A.le) J.2 (λt M _ y=>(ei t rfl y)) _ λv L Z U=>?_
  refine jj v U λt y=>?_
  have C:=b4 A.le Z
  have km:D.length<=2:=by
   have:=congrArg fi x
   rw [bh] at this
   exact a_ (eg _ _) (gu this.symm)
  refine ⟨by rw [bb,j];exact rD (a_ km (by decide)),F _ _ ⟨(b4 r C),(f++[t]),(by rw [b_];rfl),(by rw [bh,bh,j];rfl),(λi O R g k=>?_)⟩⟩
  rcases j' i f.length with B |E
  .rw [eN B] at g
   rw [eN (j▸B)] at k
   exact (m i O R g k).le C
  .rw [fj E] at g
   rw [fj (j▸E),<-j] at k
   have h0:i -f.length=0:=iZ.mp (gy g)
   rw [h0] at g k
   (injection g with g;subst g);(injection k with k;subst k)
   exact y
 .intro w s L c V u;obtain ⟨r,f,rfl,j,m⟩:=V
  match f,j with
  |[p,l],_=>exact h c p l L (b4 r u.le) u.at_ ((m 0 p _ rfl rfl).le u.le) ((m 1 l _ rfl rfl).le u.le)
theorem NZ (j:Al i e b g n) (h:∀v c,eD b c->n v c->∃a f d,v= .ref a/\c a=some (.inst 5 f [(54,.ref d)])/\i (.fn 35) [.ref a] c bw):VE PG i (.fL g 5 .nil) e b bw:=j _ λv c m l=>by
 refine wX (h v c m l) λa f d p o k=>?_;subst p
 exact .inst o rfl rfl rfl k
noncomputable def Gy (W:List Row) (K:List Int):AV:=Nb (((sortI K).map λk=>(k,after W k)).filter λp:Int×List Row=>!decide (p.2=[]))
theorem Qb {c:Table} (d:vn aU a) (g:Jl aU a7) (f:aQ.Perm a7) (e:c=tabOf aQ):Gy a7 (aU.map (·.1))=Gy a7 (c.map (·.1)):=by
 subst e
 unfold Gy
 rw (config:={}) [KC (a8:=aU.map λp=>p.1) (cp:=(tabOf aQ).map λp=>p.1) (S:=after a7) d.keys (sM aQ).1 λk b=>⟨Ug d g b,KD f b⟩]
theorem Jo (c:b d=some (.inst 5 I [(54,.ref o)])) (h:kj b o aK) (k:vn (strip aK) 5) (f:∀p∈strip aK,(after a7 p.1).Perm (live p.2)/\(after a7 p.1).Pairwise λi g=>i.1<g.1):Cl (eE PG (a+6)) (.fn 35) [.ref d] b λv _=>v=Gy a7 ((strip aK).map (·.1)):=
 Kh (a:=a) c h k (after a7) (λe j=>f (e.1,e.2.2) (ck.mpr (ei e j rfl))) λ_ _=>by rw [rh];rfl
noncomputable def Bw (kvs:List (AV×AV)):List (AV×AV):=kvs.foldl (λd p=>dictPut d p.1 p.2) []
theorem KL (a:List (AV×AV)) (p:AV×AV):Bw (a++[p])=dictPut (Bw a) p.1 p.2:=by unfold Bw;rw [iS];rfl
theorem R2 (h:l∈aC.map (·.1)):(dictPut aC l af).map (·.1)=aC.map (·.1)/\∀p∈dictPut aC l af,p∈aC\/p=(l,af):=by
 have e:dictPut aC l af=_:=if_pos h
 rw [e]
 constructor
 .rw [er]
  refine fk λp _=>?_
  by_cases a:p.1=l
  .exact (congrArg yY (if_pos a)).trans a.symm
  .exact congrArg yY (if_neg a)
 .intro p a
  refine iQ p (ck.mp a) λq c=>?_
  by_cases b:q.1=l
  .exact .inr (if_pos b)
  .exact .inl (by rw [if_neg b];exact c)
theorem Qc (kvs:List (AV×AV)):(∀p∈Bw kvs,p∈kvs)/\((Bw kvs).map (·.1)).Nodup/\∀k,k∈(Bw kvs).map (·.1)↔k∈kvs.map (·.1):=by
 induction kvs using snoc_ind with
 |h0=>exact iz (by intros;contradiction) eI (λ_=>Iff.rfl)
 |h1 kvs p ih=>
  rw [KL]
  by_cases h:p.1∈(Bw kvs).map (·.1)
  .obtain ⟨h1,h2⟩:=R2 (af:=p.2) h
   rw [h1]
   refine iz (λq hq=>?_) ih.2.1 (λk=>?_)
   .rcases h2 q hq with hq |hq
    .exact fQ _ (ih.1 q hq)
    .exact fS _ (dk.mpr hq)
   .rw [ih.2.2,b_,eF]
    exact ⟨.inl,λq=>q.elim id λq=>by rw [dk.mp q];exact (ih.2.2 _).mp h⟩
  .rw [jZ h,b_]
   refine iz (λq hq=>?_) ?_ (λk=>?_)
   .rcases eF.mp hq with hq |hq
    .exact fQ _ (ih.1 q hq)
    .exact fS _ hq
   .exact eP.mpr ⟨ih.2.1,eT.mpr ⟨ee,eI⟩,λa ha b hb q=>h (by
     have e:b=p.1:=dk.mp hb
     rw [<-e,<-q];exact ha)⟩
   .rw [eF,ih.2.2,b_,eF]
noncomputable def C5 (W:List Row) (l:Int):List AV:=(W.filter λw=>decide (w.2=l)).map λw=>tI w.1
noncomputable def R3 (p:Int×Nat):AV×AV:=(.int p.1,.ref p.2)
theorem N0 {y:List (Int×Nat×List g9)} (W:ML tI b q d y) (Y:strip y=z1 a7) (kx:e[8]? =some (some (.ref d))) (ku:e[5]? =some (some (.ref o))) (N:q o=some (.list (a7.map ie))) (R:a7.length<=5):
 At (eE PG (a+1)) e q (.cmp (.var 8) .ne (.call (.cst (.bi 6)) (.cons (.comp [none,none,none,some 5] (.tup (.cons (.var 2) (.cons (.comp [none,none,none,some 2] (.var 1) [1,2] (.var 3) (.cons (.cmp (.var 2) .eq (.var 3)) .nil) .nil) .nil))) [1,2] (.var 5) .nil .nil) .nil))) false:=
 wq λQ hQ=>by
  refine QH (a5 kx) (jJ (DV (a5 ku) (tv (.list o _) a7 ie (λQ=>gH N) (λD F s=>eD q s/\∃ps:List (Int×Nat),F=ps.map (λp=>.tup [.int p.1,.ref p.2])/\ps.map (·.1)=D.map (·.2)/\∀p∈ps,s p.2=some (.list (C5 a7 p.1))) ⟨(ec _),[],rfl,rfl,(by intros;contradiction)⟩ (λ_ _ _ h=>h.1 _ _ N) ?_ ?_)))
  .intro D n r' F s hD kB K hK;refine G6 F kB λH ps C T=>?_
   refine ei [none,some (tI n.1),some (.int n.2),some (.ref o)] ?_ (Eb (M8 (a5 rfl) (uQ (λw:Row=>decide (w.2=n.2)) (λw=>tI w.1) (eA (rD R)) (a5 rfl) (H _ _ N) (λw _ s1 L=>⟨[none,some (tI w.1),some (.int w.2),some (.int n.2)],rfl,tw (pv (f9 (fU (a5 rfl) (a5 rfl) (eq_int rfl)))),λ_ U _=>jG (a5 rfl) rfl⟩) _ λv s1 L hv=>?_)))
   .show jN [1,2] (ie n) [none,none,none,(e[5]?).join]=_
    rw [ku];rfl
   refine jj v hv λc oc=>?_
   have kD:D.length<=5:=by
    rw [hD,bh] at R;exact a_ (eg _ _) R
   refine ⟨by rw [bb,<-bb (f:=λp:Int×Nat=>p.1),C,bb];exact rD kD,hK _ _ ⟨(b4 H L),(ps++[(n.2,c)]),(by rw [b_];rfl),(by rw [b_,b_,C];rfl),(λp m=>?_)⟩⟩
   rcases eF.mp m with m |m
   .exact L _ _ (T p m)
   .rw [dk.mp m];exact oc.at_
  .intro F s U c ky M;refine Lr ky λH ps z C T=>?_;subst z
   refine jI (.mk (.mk M.at_ ?_))
   refine gq (ps.map R3) (by rw [er];rfl) (λp m=>?_) (λkl hd=>?_)
   .refine iQ p (ck.mp m) λu _=>?_;exact oJ u.1 rfl
   have B:=Qc (ps.map R3)
   have O:=fM (ay:=.dict (Bw (ps.map R3))) hd
   have E:eD q (U.set kl (.dict (Bw (ps.map R3)))):=b4 H (b4 M.le O.le)
   have kq:∀j∈y,j.2.2.map tI=C5 a7 j.1:=λj t=>by
    have:(j.1,j.2.2)∈z1 a7:=Y▸ck.mpr (ei j t rfl)
    have:=D4 (k:=λr:Row=>r.2) (x:=λr:Row=>r.1) a7 _ this
    unfold C5
    rw [show j.2.2=_ from this,er];rfl
   have X:∀p∈ps,(U.set kl (.dict (Bw (ps.map R3)))) p.2=some (.list (C5 a7 p.1)):=λp m=>O.le _ _ (M.le _ _ (T p m))
   have km:∀l,∀u∈C5 a7 l,Plain u:=λl u hx=>by
    refine iQ u (ck.mp hx) λw _=>?_;exact xw _
   have J:(y.map (·.1)).Nodup/\∀g,g∈y.map (·.1)↔∃r∈a7,r.2=g:=by
    rw [<-rh,Y];exact sM a7
   have P:∀g:Int,AV.int g∈(Bw (ps.map R3)).map (·.1)↔∃r∈a7,r.2=g:=λg=>by
    rw [B.2.2,er,show ((λu:AV×AV=>u.1)∘R3)=AV.int∘yY from rfl,<-er,qI,C,ck]
   refine .ne (.Ik (E _ _ W.dict) O.at_ (λI V=>?_) (λI V=>?_) ?_ (λi r xs hm hr=>?_)) (hQ _ _ E rfl)
   .refine iQ I (ck.mp V) λj t=>?_
    exact ⟨j.1,j.2.1,_,rfl,(E _ _ (W.ls j t).1),(by rw [kq j t];exact km _)⟩
   .refine iQ I (ck.mp (B.1 I V)) λp m=>?_
    exact ⟨p.1,p.2,_,rfl,(X p m),(km _)⟩
   .have h1:((KW y).map (·.1)).Nodup:=by
     rw [uR];exact yQ J.1 λkF _ kG _ j=>AV.int.inj j
    have:=wC h1 B.2.1 λS=>?_
    .rw (config:={}) [bb,bb] at this;exact this
    .rw [uR]
     constructor
     .intro A
      refine iQ S (ck.mp A) λg hg=>?_
      exact (P g).mpr ((J.2 g).mp hg)
     .intro A
      refine eS (ck.mp ((B.2.2 S).mp A)) λn G j=>?_
      refine eS (ck.mp G) λp m z=>?_;subst z
      have j:S= .int p.1:=j.symm
      rw [j] at A⊢
      exact qI.mpr ((J.2 p.1).mpr ((P p.1).mp A))
   .refine eS (ck.mp hm) λj t e2=>?_
    have hi:j.1=i:=AV.int.inj (k7 e2).1
    have kz:j.2.1=r:=AV.ref.inj (k7 e2).2
    have Z:=E _ _ (W.ls j t).1
    rw [kz] at Z
    have kC:xs=C5 a7 i:=by
     have:=AO.list.inj (d3 (hr.symm.trans Z))
     rw [this,kq j t,hi]
    refine eS (ck.mp ((P i).mpr ((J.2 i).mp (hi▸fC t)))) λn G e3=>?_
    refine eS (ck.mp (B.1 n G)) λp m z=>?_;subst z
    have kn:p.1=i:=AV.int.inj e3
    exact ei p.2 (by rw [<-kn];exact G) (by rw [kC,<-kn];exact X p m)
theorem Uj (ku:List Int) (mx:ku.length<=63):eE PG 50 (.fn 81) [.BM ku] (λ_=>none) λv _=>v= .bool true:=by
 refine gO (a:=49) [some (.BM ku),none,none,none,none,none,none,none,none,none,none,none] (by decide) rfl rfl (NW (a:=48) (a8:=ku) (λp cl s1 hp=>?_) rfl mx)
 refine Gx (a:=42) hp rfl λc2 d1 d2 N E2 s2 mh kT lJ F kB h2=>?_
 refine H7 (a:=43) (ag:=λfl _ lS=>∃lZ,eD lZ lS/\y8 fl= .bool true) rfl h2 kT lJ F kB λc3 t1 t2 s3 l3 h3 lh mu=>?_
 refine eS (zr F.keys) λB w1 kO=>?_
 refine eS (zr kB.keys) λW2 w2 lL=>?_
 have hW:Jl (strip N) B:=⟨w1,kO⟩
 have lB:Jl (strip E2) W2:=⟨w2,lL⟩
 have lQ:∀{lI:Table} {B:List Row},vn lI 5->Jl lI B->∀r∈B,r.1.length<=4/\DY r.1/\10<=r.2/\r.1≠[]:=λhT hW r f=>D1 hT r (hW.perm.mem_iff.mp f)
 have I:=lQ F hW
 have lx:=lQ kB lB
 have U:B.length<=5:=by rw [w1.length_eq];exact a_ (rj _) F.KX
 have kJ:sz B<1000:=by
  have:∀R:List Row,(∀r∈R,r.1.length<=4)->sz R<=9*R.length:=by
   intro R
   induction R with
   |nil=>exact λ_=>eJ _
   |cons r R ih=>
    intro h
    have h1:=ih λq hq=>h q (.tail _ hq)
    have h2:=h r (.head _)
    show wt r+sz R<=9*(R.length+1)
    exact Xf h1 h2
  have:=this B λr f=>(I r f).1
  exact c4 (a_ this (gQ 9 U)) (by decide)
 obtain ⟨L1,g1,kX,me,kV⟩:=Gk (aQ:=nv (strip N)) (w1.trans (p5 F.keys).symm) kO (λr f=>(I r f).2.2.1) λr f=>(I r f).2.1
 obtain ⟨L2,g2,m8,_,_⟩:=Gk (aQ:=nv (strip E2)) (w2.trans (p5 kB.keys).symm) lL (λr f=>(lx r f).2.2.1) λr f=>(lx r f).2.1
 have kU:(jl A8 (nv (strip N))).steps.length<=1000:=by
  have h1:=(CP (nv (strip N)) HI CO λr f=>(I r (w1.mem_iff.mpr ((p5 F.keys).mem_iff.mp f))).1).2.2
  have h2:(nv (strip N)).length<=5:=by rw [(p5 F.keys).length_eq,<-w1.length_eq];exact U
  have h3:A8.steps.length=1:=rfl
  exact a_ h1 (a_ (fO (gu h3) (gQ 4 h2)) (by decide))
 generalize jl A8 (nv (strip N))=A1 at*
 generalize jl A8 (nv (strip E2))=A2 at*
 have lA:∀km,(A1.at km).length<=5:=λkm=>by
  have:=xN (g1.ok.rP km) (kV km)
  rwa [bb] at this
 have lW:=l3 _ _ h2
 refine je (g6 dt (iJ (fq (d:=0) (a5 rfl) lW dt rfl)) (tr (by decide) λt4 lq f4 _ _=>?_))
 have n4:=fM (ay:=.inst 5 lq [(54,.ref d1)]) f4
 generalize va s3 t4 _=s4 at*
 have kQ:=b4 l3 n4.le
 refine yz (gw dt (iJ (fq (d:=0) (a5 rfl) (kQ _ _ h2) dt rfl)) (A6 (a:=45) (kT.le kQ) F w1 kO)) λv s5 l5 w=>?_
 refine jj v w λc5 o5=>?_
 have lT:=b4 kQ l5
 refine yz (gw dt (iJ (fq (d:=0) (a5 rfl) (b4 n4.le l5 _ _ h3) dt rfl)) (HR (a:=43) (n:=λv s=>∃M ky S C hs K,v= .ref M/\mX s M ⟨S,C⟩/\F0 A1 L1 0 (λkN=>U' hs kN 0) K/\Br A1 L1 (λkN=>U' hs kN 0) ky S C/\S.length=ky.length/\pP 1 0 S=some ky.length) (lh.le (b4 n4.le l5)) g1 me lA kU
  λhl hs K s6 l6 ml m9 hH=>D' (a:=43) (lh.le (b4 (b4 n4.le l5) l6)) g1 hH ml m9 lA kU λM ky S C s7 l7 ma hb kn kY=>⟨M,ky,S,C,hs,K,rfl,ma,hH,hb,kn,kY⟩)) λv s6 l6 w=>?_
 refine EI w λM ky S C hs K mr=>OG mr λkF lM hH hb kn kY=>?_;subst kF
 have z:=hb.least g1 hH kn
 rw [kX] at z
 have lG:=hb.Ta kV kn
 have lU:=hb.sorted g1.ok kV kn
 have lE:S.length<=1000:=by rw [kn];exact a_ hb.Nr kU
 have lV:pP 1 0 S=some S.length:=by rw [kn];exact kY
 refine yz (gw dt (iJ (a5 rfl)) (yJ (a:=42) (n:=λv s=>∃tb ks Y H,v= .ref tb/\ks.Nodup/\(∀g,g∈ks↔∃km,g∈((⟨S,C⟩:Au).at km).map (·.1))/\yI ⟨S,C⟩ (sortI ks) Y H/\F6 s tb ⟨S,C⟩ H (mK ⟨S,C⟩::Y)) lM z.x6.ok lG lE
  λtb ks Y H s7 _ a kD c d=>⟨tb,ks,Y,H,rfl,a,kD,c,d⟩)) λv s7 l7 w=>?_
 refine G5 w λtb ks Y H md=>qk md λkF m6 lK hC mn=>?_;subst kF
 have lH:DY ks:=λg hg=>by refine j_ ((lK g).mp hg) λkm m4=>?_;exact lG km g m4
 have kK:=b4 lT (b4 l6 l7)
 have kZ:eD s3 s7:=b4 n4.le (b4 l5 (b4 l6 l7))
 have kl:vG s7 p cl 72 c2 d1 d2 c3 t1 t2 t4 c5 M tb N E2 A1 A2 ⟨S,C⟩ B H (mK ⟨S,C⟩::Y):=
  ⟨mh.keep kK,kK _ _ h2,kT.le kK,lJ.le kK,kZ _ _ h3,lh.le kZ,mu.le kZ,(oJ lq (b4 l5 (b4 l6 l7) _ _ n4.at_)),b4 l6 l7 _ _ o5.at_,lM.le l7,mn⟩
 have hP:Ui N E2 A1 A2 ⟨S,C⟩ B H (mK ⟨S,C⟩::Y):=⟨F,kB,hW,(ei L1 g1 kX),(nr W2 L2 g2 m8 lB),(ei _ z.x6 z.l0)⟩
 refine eS (KG (hW.P4 F)) λlC hV ly=>?_
 have lO:∀{s:AS} {J:Nat} {A:Au} {L:Nat->List Row} {Z:MM} {kz:CE},Ev (eE PG 49) Z s kz (.ref J)->mX s J A->tT A L->L 0=B->Al (eE PG 49) Z s (.call (.cst (.fn 48)) (.cons kz .nil)) λv s'=>∃c,v= .ref c/\s' c=some (.list (B.map ie)):=λ{s J A L Z kz} he hA hg h0=>
  gw dt (iJ he) (uP (sj (a:=45) hA hg (by rw [h0];exact U) (by rw [h0];exact kJ)) λv s' _ w=>by rw [h0] at w;exact sR w)
 refine pF (aw:=false||(false||false)) (FG (wF (uY B) (lO (fq (d:=0) (a5 rfl) kl.l3 dt rfl) kl.UT g1 kX) λs l=>jG (a5 rfl) (ei c5 rfl (l _ _ kl.wl))) λ_ s8 l8=>
  FG (wF (uY B) (lO (a5 rfl) (kl.le l8).lean z.x6 z.l0) λs l=>jG (a5 rfl) (ei c5 rfl (l _ _ (kl.le l8).wl))) λ_ s9 l9=>
   NU (l:=Gy B ((strip N).map (·.1))) (H6 _) ?_ λs l=>?_) λmI mw=>⟨(by intros;contradiction),λ_=>s_end ?_⟩
 .have lY:=kl.le (b4 l8 l9)
  refine λQ O=>NZ (gw dt (iJ (a5 rfl)) (BZ (a:=44) (n:=λv s=>∃J d dx E,v= .ref J/\s J=some (.inst 5 dx [(54,.ref d)])/\kj s d E/\strip E=tabOf lC) lY.lean z.x6 (by rw [z.l0];exact U) (by rw [z.l0];exact kJ) (by rw [z.l0];exact λr f=>(I r f).2.2.2) (a7:=lC) (by rw [z.l0];exact hV) ly
   λJ d dx E s _ a kD c=>(vd J d dx E rfl a kD c))) λv lD X w=>?_
  refine yc w λJ d dx E kF a kD c=>?_;subst kF
  refine ⟨J,dx,d,rfl,a,(Jo (a:=43) (a7:=B) a kD (c▸NT hV U λr f=>⟨(I r f).2.2.2,(I r f).2.1,(I r f).1,(I r f).2.2.1⟩) (c▸H5 hV (hW.P4 F) (λr f=>(I r f).2.2.2) ly) Q λv kI kC w=>O v kI (b4 X kC) ?_)⟩
  rw [w];exact (Qb F hW hV c).symm
 .have hL:=kl.le (b4 (b4 l8 l9) l)
  refine j_ hL.HE λdx lr=>?_
  exact λQ O=>NZ (n:=λv _=>v= .ref t4) (jG (a5 rfl) rfl) λv lD X w=>⟨t4,dx,d1,w,(X _ _ lr),(Jo (a:=43) (X _ _ lr) (hL.NX.le X) F (RZ F hW) Q λv kI kC w=>O v kI (b4 X kC) w)⟩
 have kx:=kl.le mw
 refine pF (aw:=false||false) (FG (NU (l:=.tup [.int S.length,.int (mK ⟨S,C⟩::Y).length]) (.tup _ _ λkN hx=>?_) ?_ λs l=>?_) λ_ lD X=>?_) λkI kC=>⟨(by intros;contradiction),λ_=>s_end ?_⟩
 .cases hx with
  |head=>exact .int _ _
  |tail _ hx=>
   cases hx with
   |head=>exact .int _ _
   |tail _ hx=>exact (ee hx).elim
 .obtain ⟨lN,ca,lP,en,lj,G⟩:=kx.st
  have mq:0<lj.length:=by rw [G.len];exact z.x6.ok.pos
  have e0:=df mq
  have kH:=jd (a:=48) (e:=[some (.BM ku),some (.ref p),some (.ref c2),some (.ref c3),some (.ref t4),some (.ref c5),some (.ref M),some (.ref tb),none,none,none,none]) (fq (g:=.attr (.var 7) 58) (D:=.cst (.int 0)) (d:=0) (eO (a5 rfl) G.obj rfl) G.rows dt (by rw [ed,e0];rfl)) (f7 (G.row 0 _ e0))
  rw [bb] at kH
  exact jG (g5 (iL (uT (a:=45) kx.lean rfl) kH)) rfl
 .exact gw dt (iJ (a5 rfl)) (HT (a:=44) ((kx.le l).wl) U kJ λ_ _=>by rw (config:={}) [<-z.size,<-z.cols hC lK lH])
 .obtain ⟨lN,ca,lP,en,lj,G⟩:=(kx.le X).st
  have kH:=jd (a:=48) (e:=[some (.BM ku),some (.ref p),some (.ref c2),some (.ref c3),some (.ref t4),some (.ref c5),some (.ref M),some (.ref tb),none,none,none,none]) (eO (g:=.var 7) (a:=58) (a5 rfl) G.obj rfl) (f7 G.rows)
  rw [bb,G.len] at kH
  exact pv (f9 (fU kH (uT (a:=45) (kx.le X).lean rfl) (ne_int (by rw [decide_eq_true rfl];rfl))))
 have lz:=kx.le kC
 refine yz (gw dt (iJ (a5 rfl)) (Bc (a:=44) (n:=λv s=>∃d8 E8,v= .ref d8/\ML tI kI s d8 E8/\strip E8=z1 B) lz.lean z.x6 (by rw [z.l0];exact U) (by rw [z.l0];exact kJ) λd E s _ hE hs=>(nr d E rfl hE (by rw [hs,z.l0])))) λv mG my w=>?_
 refine v9 v w λd8 E8 h8 mf=>?_
 have lu:=lz.le my
 refine pF (aw:=false) (N0 (a:=48) h8 mf rfl rfl lu.wl U) λmD m3=>⟨(by intros;contradiction),λ_=>s_end ?_⟩
 have kW:=lu.le m3
 obtain ⟨mJ,mC,e6,mF,hB⟩:=kW.lean
 refine pF (aw:=false) (yy (aw:=true) (rO λQ O=>Gg (eO (a5 rfl) hB.obj rfl) (tx (λ_=>true) (λg:Int=>sk ((H.lookup g).getD 0)) [1,2,3,4,5] AV.int (by unfold fE;decide) (n:=λv _=>v= .pT 1 6 1) (jG (vw (a:=48) (d:=1) (o:=6) dt dt (by decide) (by decide)) rfl) (λv kP _ kz=>(ei .pT (λ_ _=>trivial) (λQ O=>by rw [kz];exact tu (a:=1) (d:=6) O))) λg _ kP kq=>(gq [none,some (.int g),some (.ref tb)] rfl xC (λ_ lF lg=>?_)))
  λv kP kq w=>?_)) λkP kq=>⟨(by intros;contradiction),λ_=>s_end ?_⟩
 .obtain ⟨lN,ca,lP,en,lj,G⟩:=(kW.le (b4 kq lg)).st
  obtain ⟨mB,dc,mi,mE⟩:=id G.cls
  exact jG (λQ O=>jr (eO (a5 rfl) G.obj rfl) mi rfl rfl rfl (iJ (a5 rfl)) (sf (by decide) G.cls O)) rfl
 .refine jj v w λcn on=>?_
  have lR:=on.at_
  rw [jv.mpr λ_ _=>rfl,show ([1,2,3,4,5]:List Int).map (λg=>sk ((H.lookup g).getD 0))=(([1,2,3,4,5]:List Int).map λg=>(H.lookup g).getD 0).map sk from rfl] at lR
  exact B1 (a:=45) (n:=λv _=>v= .bool true) (kq _ _ hB.steps) (hB.AP.le kq) lR lU lV (hC.nums m6 lH) lE (λ_ _=>rfl) _ λv lF lg w=>O v lF (b4 kq lg) w
 have mj:=kW.le kq
 refine A4 (jJ (dt _ (tB (a:=48) (d:=3) (by decide) (iG .pT (eQ 3) (λmv=>.int (mv:Nat)) (λQ=>p3) (λD Z s=>vG s p cl (72+12*D.length) c2 d1 d2 c3 t1 t2 t4 c5 M tb N E2 A1 A2 ⟨S,C⟩ B H (mK ⟨S,C⟩::Y)/\∃w9 kM kG,Z=[some (.BM ku),some (.ref p),some (.ref c2),some (.ref c3),some (.ref t4),some (.ref c5),some (.ref M),some (.ref tb),some (.ref d8),w9,kM,kG]) ⟨mj,_,_,_,rfl⟩ (λ_ _ _ _=>trivial) ?_ ?_))))
 .intro D y r' Z s hD m5 K hK;refine Ln Z m5 λhL w9 kM kG=>?_
  have mA:D.length<=3:=by
   have:=congrArg fi hD
   rw [fc,bh] at this
   exact a_ (eg _ _) (gu this.symm)
  refine ei _ rfl (Gw (a:=43) hL (by exact c4 (d5 (gQ 12 mA) 72) (by decide)) (λq hq=>(I q hq).1) U λcg gs s' kG m7 hg mz=>KJ (a:=38) m7 hP hg mz λmH kM kG mm=>hK _ _ ⟨?_,_,_,_,rfl⟩)
  rw [bh,i9,Nat.mul_add,Nat.mul_one,<-fI]
  exact mm
 .intro Z s lX;refine Ln Z lX λhL w9 kM kG=>?_
  exact iM dt (ei _ (ec _) rfl)
end Mine
set_option tactic.hygienic true
set_option bootstrap.genMatcherCode true
set_option Elab.async true
namespace Mine.hq
theorem tw6442286201827202927:True:=⟨⟩
theorem tw13751960006981385605:True:=⟨⟩
theorem tw9901041768872518651:True:=⟨⟩
theorem tw5611102857607521741:True:=⟨⟩
theorem tw18023701660430168103:True:=⟨⟩
theorem tw15905874718496805183:True:=⟨⟩
theorem tw233199577985559970:True:=⟨⟩
theorem tw12634840236772402975:True:=⟨⟩
theorem tw11862694879087426096:True:=⟨⟩
theorem tw14338712846634258801:True:=⟨⟩
theorem tw9428742883436320482:True:=⟨⟩
theorem tw15534325259311548342:True:=⟨⟩
theorem tw12496698030514209297:True:=⟨⟩
theorem tw12664413295080255743:True:=⟨⟩
theorem tw2367623169485729044:True:=⟨⟩
theorem tw6987171224388242222:True:=⟨⟩
theorem tw7089316416521786280:True:=⟨⟩
theorem tw13553215187314863201:True:=⟨⟩
theorem tw16393828553131281715:True:=⟨⟩
theorem tw15674605124737195981:True:=⟨⟩
theorem tw1790225447845560585:True:=⟨⟩
theorem tw16809807526908380884:True:=⟨⟩
theorem tw909575876175560465:True:=⟨⟩
theorem tw15812451359255101891:True:=⟨⟩
theorem tw9083301775340355608:True:=⟨⟩
theorem tw4666310112322607275:True:=⟨⟩
theorem tw3895977767261139510:True:=⟨⟩
theorem tw16372276340707851479:True:=⟨⟩
theorem tw18430880168501906121:True:=⟨⟩
theorem tw12514970091603982059:True:=⟨⟩
theorem tw4017666659659470015:True:=⟨⟩
theorem tw12911645755892562355:True:=⟨⟩
theorem tw12505053496867080562:True:=⟨⟩
theorem tw6707030878703492132:True:=⟨⟩
theorem tw4001032458579979667:True:=⟨⟩
theorem tw8092459957483288813:True:=⟨⟩
theorem tw994457080456318729:True:=⟨⟩
theorem tw14772127340083367040:True:=⟨⟩
theorem tw7253851005133477568:True:=⟨⟩
theorem tw5691554338385257998:True:=⟨⟩
theorem tw3560430997919898871:True:=⟨⟩
theorem tw13769147277773836033:True:=⟨⟩
theorem tw9127893848950081433:True:=⟨⟩
theorem tw1515599132787875686:True:=⟨⟩
theorem tw4268526678770356015:True:=⟨⟩
theorem tw12481044172393887954:True:=⟨⟩
theorem tw13100683107442814338:True:=⟨⟩
theorem tw4701845322466739022:True:=⟨⟩
theorem tw1750795104730000546:True:=⟨⟩
theorem tw14733770234564473523:True:=⟨⟩
theorem tw8238198130762350294:True:=⟨⟩
theorem tw8914243485484973694:True:=⟨⟩
theorem tw1700315315751232304:True:=⟨⟩
theorem tw4057580815170638606:True:=⟨⟩
theorem tw18442532955660031598:True:=⟨⟩
theorem tw18257735861726044745:True:=⟨⟩
theorem tw16552130286418335332:True:=⟨⟩
theorem tw1441488458906403996:True:=⟨⟩
theorem tw7527418259463458165:True:=⟨⟩
theorem tw5028797041122850161:True:=⟨⟩
theorem tw11904904241039891960:True:=⟨⟩
theorem tw13328776239465341797:True:=⟨⟩
theorem tw2757439949053186533:True:=⟨⟩
theorem tw7179472203213589255:True:=⟨⟩
theorem tw8331520620733812097:True:=⟨⟩
theorem tw16750279658653203061:True:=⟨⟩
theorem tw8912192177817946102:True:=⟨⟩
theorem tw667236257013756550:True:=⟨⟩
theorem tw13604076548809337595:True:=⟨⟩
theorem tw5749242349582785463:True:=⟨⟩
theorem tw7511721461442411465:True:=⟨⟩
theorem tw12360401225053915393:True:=⟨⟩
theorem tw3211473203395817243:True:=⟨⟩
theorem tw14512733808186690832:True:=⟨⟩
theorem tw18340721319590389962:True:=⟨⟩
theorem tw9612742909652353465:True:=⟨⟩
theorem tw17884644973305957733:True:=⟨⟩
theorem tw1154563227431711215:True:=⟨⟩
theorem tw1803784778914781481:True:=⟨⟩
theorem tw2060327042702796305:True:=⟨⟩
theorem tw15189462117764140124:True:=⟨⟩
theorem tw3422547408385998623:True:=⟨⟩
theorem tw18332427662228458139:True:=⟨⟩
theorem tw3480666100315175299:True:=⟨⟩
theorem tw5914124745671280715:True:=⟨⟩
theorem tw14353095049506806319:True:=⟨⟩
theorem tw2996563815162090415:True:=⟨⟩
theorem tw3491428954475440883:True:=⟨⟩
theorem tw5301994602263957399:True:=⟨⟩
theorem tw11085315714167747792:True:=⟨⟩
theorem tw11341742245578585151:True:=⟨⟩
theorem tw16897822082616854030:True:=⟨⟩
theorem tw10187816474469822774:True:=⟨⟩
theorem tw5731166914374295624:True:=⟨⟩
theorem tw12889914191371890957:True:=⟨⟩
theorem tw4384125343571282268:True:=⟨⟩
theorem tw10000794576204330153:True:=⟨⟩
theorem tw2892285669437799826:True:=⟨⟩
theorem tw722643689031310280:True:=⟨⟩
theorem tw3085968280470273992:True:=⟨⟩
theorem tw3154463578298619625:True:=⟨⟩
theorem tw3544906069245241880:True:=⟨⟩
theorem tw9812839542755203597:True:=⟨⟩
theorem tw15945134739743178578:True:=⟨⟩
theorem tw2064276708794333371:True:=⟨⟩
theorem tw16752249409316337403:True:=⟨⟩
theorem tw15651339461893351178:True:=⟨⟩
theorem tw9260111500061609200:True:=⟨⟩
theorem tw1500765314571102690:True:=⟨⟩
theorem tw6118443615581677530:True:=⟨⟩
theorem tw6815685841524224632:True:=⟨⟩
theorem tw16310537014886237944:True:=⟨⟩
theorem tw540485975783732659:True:=⟨⟩
theorem tw3161153080226833229:True:=⟨⟩
theorem tw13495405613607610781:True:=⟨⟩
theorem tw13959481576897727349:True:=⟨⟩
theorem tw11150044685417158869:True:=⟨⟩
theorem tw3445220037759595600:True:=⟨⟩
theorem tw17191537605157243135:True:=⟨⟩
theorem tw13170102597804110052:True:=⟨⟩
theorem tw12617662541128001882:True:=⟨⟩
theorem tw3902250879547172936:True:=⟨⟩
theorem tw2408465754971806201:True:=⟨⟩
theorem tw6618208201849933638:True:=⟨⟩
theorem tw4991336011138955280:True:=⟨⟩
theorem tw13450832908405550097:True:=⟨⟩
theorem tw8289973216720156474:True:=⟨⟩
theorem tw9763324061818089090:True:=⟨⟩
theorem tw9375045823711978607:True:=⟨⟩
theorem tw7025414876460286934:True:=⟨⟩
theorem tw4167004640589313651:True:=⟨⟩
theorem tw3014720679539756873:True:=⟨⟩
theorem tw8049949838826251480:True:=⟨⟩
theorem tw926538531027841127:True:=⟨⟩
theorem tw8377207884362891880:True:=⟨⟩
theorem tw12590562862586613239:True:=⟨⟩
theorem tw13943852286573993618:True:=⟨⟩
theorem tw8491087748805393471:True:=⟨⟩
theorem tw3413191660162019370:True:=⟨⟩
theorem tw4194152291734139813:True:=⟨⟩
theorem tw11402776170388669038:True:=⟨⟩
theorem tw12939260477051835880:True:=⟨⟩
theorem tw17688975350060823859:True:=⟨⟩
theorem tw11955610403688730753:True:=⟨⟩
theorem tw7861226076304730246:True:=⟨⟩
theorem tw2706923899692441627:True:=⟨⟩
theorem tw17909812858496967348:True:=⟨⟩
theorem tw3478883397168826629:True:=⟨⟩
theorem tw12428739965439566872:True:=⟨⟩
theorem tw15947022525539137760:True:=⟨⟩
theorem tw14818870746610397590:True:=⟨⟩
theorem tw9524481874210789358:True:=⟨⟩
theorem tw7276312473770576539:True:=⟨⟩
theorem tw14593943014257951374:True:=⟨⟩
theorem tw5906174600817787350:True:=⟨⟩
theorem tw14641220288254092781:True:=⟨⟩
theorem tw2505651065827292706:True:=⟨⟩
theorem tw6301188507028695425:True:=⟨⟩
theorem tw16637177162505234527:True:=⟨⟩
theorem tw10657596162594908759:True:=⟨⟩
theorem tw13585818629147946182:True:=⟨⟩
theorem tw15281599693950754896:True:=⟨⟩
theorem tw17463812411989068010:True:=⟨⟩
theorem tw16867273931720873272:True:=⟨⟩
theorem tw13001207721643841512:True:=⟨⟩
theorem tw9978726442917373551:True:=⟨⟩
theorem tw4251841842268149677:True:=⟨⟩
theorem tw1869912705798827136:True:=⟨⟩
theorem tw8728209164801503031:True:=⟨⟩
theorem tw17313500477962296120:True:=⟨⟩
theorem tw6492908563196855892:True:=⟨⟩
theorem tw18287939907917545381:True:=⟨⟩
theorem tw15170669351824557439:True:=⟨⟩
theorem tw9549253132143110608:True:=⟨⟩
theorem tw18346841983034571262:True:=⟨⟩
theorem tw540608965632813519:True:=⟨⟩
theorem tw10223406500745991142:True:=⟨⟩
theorem tw4515192732947451210:True:=⟨⟩
theorem tw16941475275509793766:True:=⟨⟩
theorem tw9151865133259420103:True:=⟨⟩
theorem tw84437323512654445:True:=⟨⟩
theorem tw12420351203523029791:True:=⟨⟩
theorem tw7002464205399081975:True:=⟨⟩
theorem tw2175518295204102879:True:=⟨⟩
theorem tw7740853044027385959:True:=⟨⟩
theorem tw13992288386993298184:True:=⟨⟩
theorem tw2260561623700716748:True:=⟨⟩
theorem tw13398516417001538080:True:=⟨⟩
theorem tw5282431362952038235:True:=⟨⟩
theorem tw12485548662368916749:True:=⟨⟩
theorem tw16086767934403656065:True:=⟨⟩
theorem tw8714194948018631825:True:=⟨⟩
theorem tw4848108807988124131:True:=⟨⟩
theorem tw7441071891799560861:True:=⟨⟩
theorem tw13133925777924542315:True:=⟨⟩
theorem tw8280607470232188737:True:=⟨⟩
theorem tw13502862691939865659:True:=⟨⟩
theorem tw5812001181764318152:True:=⟨⟩
theorem tw15726504573289427775:True:=⟨⟩
theorem tw2990441756992739365:True:=⟨⟩
theorem tw2338785445158028428:True:=⟨⟩
theorem tw9895131460724483007:True:=⟨⟩
theorem tw781474288783034380:True:=⟨⟩
theorem tw10957233804992961332:True:=⟨⟩
theorem tw16854146946076394113:True:=⟨⟩
theorem tw18377318545847360015:True:=⟨⟩
theorem tw8149433206854638965:True:=⟨⟩
theorem tw7850188486041987321:True:=⟨⟩
theorem tw16549860719943262585:True:=⟨⟩
theorem tw6081658456115023458:True:=⟨⟩
theorem tw9011243111761860492:True:=⟨⟩
theorem tw3568306119967612974:True:=⟨⟩
theorem tw14587594007023303460:True:=⟨⟩
theorem tw6112821752894491310:True:=⟨⟩
theorem tw15723494032090786635:True:=⟨⟩
theorem tw9915848678032667492:True:=⟨⟩
theorem tw17389483476063430775:True:=⟨⟩
theorem tw8379139677283497518:True:=⟨⟩
theorem tw6703137428290144329:True:=⟨⟩
theorem tw8730326856917428115:True:=⟨⟩
theorem tw15256828576862472125:True:=⟨⟩
theorem tw2892858402054980869:True:=⟨⟩
theorem tw1860683089816694825:True:=⟨⟩
theorem tw13406518014326716138:True:=⟨⟩
theorem tw7219658615716743296:True:=⟨⟩
theorem tw10688613817813675982:True:=⟨⟩
theorem tw8988888807559320894:True:=⟨⟩
theorem tw17526359418520415453:True:=⟨⟩
theorem tw10844470459063464443:True:=⟨⟩
theorem tw14501324938897067561:True:=⟨⟩
theorem tw11207855887277221106:True:=⟨⟩
theorem tw12506642881698933559:True:=⟨⟩
theorem tw7544271963468501779:True:=⟨⟩
theorem tw8308388744524497552:True:=⟨⟩
theorem tw11961918275323247916:True:=⟨⟩
theorem tw285311508116289287:True:=⟨⟩
theorem tw7442177523960112853:True:=⟨⟩
theorem tw13891769438995799445:True:=⟨⟩
theorem tw456172942799691745:True:=⟨⟩
theorem tw17641890241275046623:True:=⟨⟩
theorem tw4375985329216827839:True:=⟨⟩
theorem tw11824069836422780227:True:=⟨⟩
theorem tw18276807595065023739:True:=⟨⟩
theorem tw1808943091658265301:True:=⟨⟩
theorem tw5148840542955322005:True:=⟨⟩
theorem tw16316352616789880349:True:=⟨⟩
theorem tw15385585939819168887:True:=⟨⟩
theorem tw9768242074103074221:True:=⟨⟩
theorem tw17577272718891032105:True:=⟨⟩
theorem tw14375828484873233585:True:=⟨⟩
theorem tw9133466482286349414:True:=⟨⟩
theorem tw13206510289756453029:True:=⟨⟩
theorem tw7795197914602774408:True:=⟨⟩
theorem tw10914737284747560342:True:=⟨⟩
theorem tw12285651354710344000:True:=⟨⟩
theorem tw9025512103472134450:True:=⟨⟩
theorem tw7723358927924880359:True:=⟨⟩
theorem tw17719787235402466642:True:=⟨⟩
theorem tw4741875132220596311:True:=⟨⟩
theorem tw1629939692016619404:True:=⟨⟩
theorem tw10386670604418296725:True:=⟨⟩
theorem tw4724890111835787062:True:=⟨⟩
theorem tw10340674731281136786:True:=⟨⟩
theorem tw10240522916743850443:True:=⟨⟩
theorem tw8619330007972718021:True:=⟨⟩
theorem tw779450028884369565:True:=⟨⟩
theorem tw7124110289175886657:True:=⟨⟩
theorem tw10312157954276465073:True:=⟨⟩
theorem tw4611843103851283707:True:=⟨⟩
theorem tw13169572222614648372:True:=⟨⟩
theorem tw4836737923570769024:True:=⟨⟩
theorem tw1356178445314535933:True:=⟨⟩
theorem tw9493725803484967530:True:=⟨⟩
theorem tw9034970781958629739:True:=⟨⟩
theorem tw16753647990397320144:True:=⟨⟩
theorem tw1696085958373183647:True:=⟨⟩
theorem tw3894871946632657679:True:=⟨⟩
theorem tw10599665552369709638:True:=⟨⟩
theorem tw8698537833381394938:True:=⟨⟩
theorem tw10189871300808820423:True:=⟨⟩
theorem tw13538046220882042919:True:=⟨⟩
theorem tw4771323023915023754:True:=⟨⟩
theorem tw15154717597991252850:True:=⟨⟩
theorem tw17191050232335479264:True:=⟨⟩
theorem tw8073309143868657023:True:=⟨⟩
theorem tw7143774053992968743:True:=⟨⟩
theorem tw18201938650840483205:True:=⟨⟩
theorem tw5991825269154617347:True:=⟨⟩
theorem tw14627097287796702097:True:=⟨⟩
theorem tw370567924381415039:True:=⟨⟩
theorem tw13201679970922164330:True:=⟨⟩
theorem tw781851627551156493:True:=⟨⟩
theorem tw1426369009746784495:True:=⟨⟩
theorem tw13468631102399112637:True:=⟨⟩
theorem tw14121371055001849588:True:=⟨⟩
theorem tw16807017868417353128:True:=⟨⟩
theorem tw12463699929421395298:True:=⟨⟩
theorem tw10627058812956214444:True:=⟨⟩
theorem tw10001376382149582108:True:=⟨⟩
theorem tw10443077905528899420:True:=⟨⟩
theorem tw9659669307319190640:True:=⟨⟩
theorem tw14237485161361176573:True:=⟨⟩
theorem tw1021251713497096614:True:=⟨⟩
theorem tw4371991447599467917:True:=⟨⟩
theorem tw6745714709360910150:True:=⟨⟩
theorem tw15976676881008073619:True:=⟨⟩
theorem tw524533962094920779:True:=⟨⟩
theorem tw3519017797754897595:True:=⟨⟩
theorem tw6156483766952535384:True:=⟨⟩
theorem tw2330199731370687674:True:=⟨⟩
theorem tw11092556201938335259:True:=⟨⟩
theorem tw13886267558521391256:True:=⟨⟩
theorem tw10952823829123372175:True:=⟨⟩
theorem tw6655851296632736839:True:=⟨⟩
theorem tw3858470327796980622:True:=⟨⟩
theorem tw195319319105484837:True:=⟨⟩
theorem tw8635002137240528865:True:=⟨⟩
theorem tw7907064084398135858:True:=⟨⟩
theorem tw11776274656460757702:True:=⟨⟩
theorem tw5791947149359680519:True:=⟨⟩
theorem tw4115226851099395319:True:=⟨⟩
theorem tw236723228397773276:True:=⟨⟩
theorem tw17485836952703706218:True:=⟨⟩
theorem tw18250771422189292895:True:=⟨⟩
theorem tw14287419288450536493:True:=⟨⟩
theorem tw3432454565359172088:True:=⟨⟩
theorem tw10723133140268546484:True:=⟨⟩
theorem tw13727620303709000063:True:=⟨⟩
theorem tw15734650141668845536:True:=⟨⟩
theorem tw8514201188782895330:True:=⟨⟩
theorem tw15079305990305215762:True:=⟨⟩
theorem tw917919121290004258:True:=⟨⟩
theorem tw16720732291038750756:True:=⟨⟩
theorem tw1277910818872460002:True:=⟨⟩
theorem tw18149566355827359682:True:=⟨⟩
theorem tw271354171592042819:True:=⟨⟩
theorem tw15629568606158070697:True:=⟨⟩
theorem tw10376031466752974828:True:=⟨⟩
theorem tw1325443426954384515:True:=⟨⟩
theorem tw4171725333644275513:True:=⟨⟩
theorem tw13354247350071896366:True:=⟨⟩
theorem tw3616478996217396334:True:=⟨⟩
theorem tw1775702854415158705:True:=⟨⟩
theorem tw1008392425469263001:True:=⟨⟩
theorem tw16906622726145663866:True:=⟨⟩
theorem tw7589107396602480322:True:=⟨⟩
theorem tw5294006075737667050:True:=⟨⟩
theorem tw11550264267855334806:True:=⟨⟩
theorem tw16003533353896068565:True:=⟨⟩
theorem tw3475086186801777325:True:=⟨⟩
theorem tw5895416178271551497:True:=⟨⟩
theorem tw4950995695539448390:True:=⟨⟩
theorem tw5186555515663700001:True:=⟨⟩
theorem tw16240424374227401199:True:=⟨⟩
theorem tw2568601839324270733:True:=⟨⟩
theorem tw4026668784279576677:True:=⟨⟩
theorem tw7587259842506438161:True:=⟨⟩
theorem tw3497761787417317800:True:=⟨⟩
theorem tw11895432268523212573:True:=⟨⟩
theorem tw3647894231261621685:True:=⟨⟩
theorem tw925611148017520223:True:=⟨⟩
theorem tw5613207279310253425:True:=⟨⟩
theorem tw18141165161687149130:True:=⟨⟩
theorem tw2944990559481669907:True:=⟨⟩
theorem tw16325697439411301246:True:=⟨⟩
theorem tw10557348633716791549:True:=⟨⟩
theorem tw2446711658860428672:True:=⟨⟩
theorem tw17451322227400245958:True:=⟨⟩
theorem tw14567226737135143758:True:=⟨⟩
theorem tw8474040522217814807:True:=⟨⟩
theorem tw533107537510362154:True:=⟨⟩
theorem tw8201169055858481340:True:=⟨⟩
theorem tw13139415309826760691:True:=⟨⟩
theorem tw11596143682707957329:True:=⟨⟩
theorem tw2920460233129220235:True:=⟨⟩
theorem tw5740101952899550972:True:=⟨⟩
theorem tw2921467058064614194:True:=⟨⟩
theorem tw13095705539143481525:True:=⟨⟩
theorem tw3461464765368363466:True:=⟨⟩
theorem tw3627233070818523257:True:=⟨⟩
theorem tw1658547955452154472:True:=⟨⟩
theorem tw4665913176990191628:True:=⟨⟩
theorem tw5219493252240457098:True:=⟨⟩
theorem tw15923224271504869091:True:=⟨⟩
theorem tw1575580736563710142:True:=⟨⟩
theorem tw1052231730491438768:True:=⟨⟩
theorem tw14969264746431923806:True:=⟨⟩
theorem tw12235868485125894331:True:=⟨⟩
theorem tw18227684946361417376:True:=⟨⟩
theorem tw5131631581878701464:True:=⟨⟩
theorem tw15952631729719037887:True:=⟨⟩
theorem tw9168773537736573765:True:=⟨⟩
theorem tw8612858684465989739:True:=⟨⟩
theorem tw12403577218061224004:True:=⟨⟩
theorem tw6738601660276500248:True:=⟨⟩
theorem tw384518735521986950:True:=⟨⟩
theorem tw8267469052338804902:True:=⟨⟩
theorem tw9604195178463712877:True:=⟨⟩
theorem tw541360200788322803:True:=⟨⟩
theorem tw17688041192245645826:True:=⟨⟩
theorem tw13845924549195999638:True:=⟨⟩
theorem tw17939040331521840985:True:=⟨⟩
theorem tw10010650081863701617:True:=⟨⟩
theorem tw16936868174623810526:True:=⟨⟩
theorem tw15491281439746748380:True:=⟨⟩
theorem tw14768286036203141162:True:=⟨⟩
theorem tw9709202937309959836:True:=⟨⟩
theorem tw3421353514304016194:True:=⟨⟩
theorem tw8843670863553936208:True:=⟨⟩
theorem tw13991502105691641572:True:=⟨⟩
theorem tw10760802254342755420:True:=⟨⟩
theorem tw5070146122541468937:True:=⟨⟩
theorem tw12417311007122829836:True:=⟨⟩
theorem tw7672739943655470209:True:=⟨⟩
theorem tw193804917870597374:True:=⟨⟩
theorem tw5288753061374985246:True:=⟨⟩
theorem tw9824468883573414275:True:=⟨⟩
theorem tw1618621502537572984:True:=⟨⟩
theorem tw10968501387965271627:True:=⟨⟩
theorem tw1569526789006978644:True:=⟨⟩
theorem tw13605588708827000737:True:=⟨⟩
theorem tw8316094494326325915:True:=⟨⟩
theorem tw6304881022484498786:True:=⟨⟩
theorem tw5631452819739503144:True:=⟨⟩
theorem tw17486772711794031567:True:=⟨⟩
theorem tw15114332125836811107:True:=⟨⟩
theorem tw7128186512092943417:True:=⟨⟩
theorem tw6578545976327660020:True:=⟨⟩
theorem tw6693717068639252140:True:=⟨⟩
theorem tw12058654197788596436:True:=⟨⟩
theorem tw10808934275972336993:True:=⟨⟩
theorem tw13442961659502248502:True:=⟨⟩
theorem tw14544256373392573544:True:=⟨⟩
theorem tw10846754605235202416:True:=⟨⟩
theorem tw8114841426480393502:True:=⟨⟩
theorem tw8703168442280000639:True:=⟨⟩
theorem tw16757073528338650253:True:=⟨⟩
theorem tw14187982978997237623:True:=⟨⟩
theorem tw4168501321830442705:True:=⟨⟩
theorem tw9783508634671734158:True:=⟨⟩
theorem tw12771422461613121140:True:=⟨⟩
theorem tw16038714658078415096:True:=⟨⟩
theorem tw4288558672954378248:True:=⟨⟩
theorem tw80881765779249268:True:=⟨⟩
theorem tw1500719978199872653:True:=⟨⟩
theorem tw7943481926809457172:True:=⟨⟩
theorem tw766174105371304529:True:=⟨⟩
theorem tw8804238086855099115:True:=⟨⟩
theorem tw6428791715259595817:True:=⟨⟩
theorem tw12892139197361222039:True:=⟨⟩
theorem tw16046787055161014137:True:=⟨⟩
theorem tw15256606102660637263:True:=⟨⟩
theorem tw1601456569762913703:True:=⟨⟩
theorem tw12224511430472119265:True:=⟨⟩
theorem tw13302039441676172322:True:=⟨⟩
theorem tw10366571678140251363:True:=⟨⟩
theorem tw7902054454379397355:True:=⟨⟩
theorem tw14064881765782178520:True:=⟨⟩
theorem tw8534005610739842664:True:=⟨⟩
theorem tw13358896697937006319:True:=⟨⟩
theorem tw9031073068422697509:True:=⟨⟩
theorem tw4797868753551183999:True:=⟨⟩
theorem tw4700772123730980896:True:=⟨⟩
theorem tw12219819207030029821:True:=⟨⟩
theorem tw229735081045165173:True:=⟨⟩
theorem tw8878085667783850231:True:=⟨⟩
theorem tw6847527207690855968:True:=⟨⟩
theorem tw5080482457446688561:True:=⟨⟩
theorem tw14223039591066305815:True:=⟨⟩
theorem tw13370623703081640355:True:=⟨⟩
theorem tw9616370734746824208:True:=⟨⟩
theorem tw9117675943426644266:True:=⟨⟩
theorem tw7813778406405503521:True:=⟨⟩
theorem tw13127699335793737955:True:=⟨⟩
theorem tw16653776548582141348:True:=⟨⟩
theorem tw1560922779193176835:True:=⟨⟩
theorem tw17490343775666085965:True:=⟨⟩
theorem tw12092680090172259033:True:=⟨⟩
theorem tw3702623868654441055:True:=⟨⟩
theorem tw9381266235724177792:True:=⟨⟩
theorem tw2023342415286700836:True:=⟨⟩
theorem tw8632563731568542535:True:=⟨⟩
theorem tw13946695615888808057:True:=⟨⟩
theorem tw11603209444005165735:True:=⟨⟩
theorem tw10899058296728633960:True:=⟨⟩
theorem tw2659005122276549912:True:=⟨⟩
theorem tw14236710644850426643:True:=⟨⟩
theorem tw7429005892963545473:True:=⟨⟩
theorem tw9901537562536030562:True:=⟨⟩
theorem tw8172153524177814700:True:=⟨⟩
theorem tw639632618262785173:True:=⟨⟩
theorem tw15572320602475567533:True:=⟨⟩
theorem tw8062890331336429170:True:=⟨⟩
theorem tw3279247951013379325:True:=⟨⟩
theorem tw17982033904585381360:True:=⟨⟩
theorem tw1710684574680506057:True:=⟨⟩
theorem tw16618909756484684467:True:=⟨⟩
theorem tw14343999606766158260:True:=⟨⟩
theorem tw11128039067330576404:True:=⟨⟩
theorem tw15136850233242887438:True:=⟨⟩
theorem tw1111263606911284345:True:=⟨⟩
theorem tw916591062595846547:True:=⟨⟩
theorem tw7018323970415672034:True:=⟨⟩
theorem tw4222511593086879587:True:=⟨⟩
theorem tw13510361038845904283:True:=⟨⟩
theorem tw2214581351128497116:True:=⟨⟩
theorem tw7954074512192545945:True:=⟨⟩
theorem tw430407546983676048:True:=⟨⟩
theorem tw15499493932771899486:True:=⟨⟩
theorem tw13448033582049419322:True:=⟨⟩
theorem tw18322473403635727288:True:=⟨⟩
theorem tw13258939022015726476:True:=⟨⟩
theorem tw11126235452647923558:True:=⟨⟩
theorem tw10515724994809746482:True:=⟨⟩
theorem tw16193364487119611749:True:=⟨⟩
theorem tw13101453209156903288:True:=⟨⟩
theorem tw16700103266205983162:True:=⟨⟩
theorem tw1148625622953004833:True:=⟨⟩
theorem tw13023949505232002771:True:=⟨⟩
theorem tw916892066089585398:True:=⟨⟩
theorem tw5253665795339500904:True:=⟨⟩
theorem tw12309540157064756360:True:=⟨⟩
theorem tw10935828522154542166:True:=⟨⟩
theorem tw17113052037052540601:True:=⟨⟩
theorem tw16231039490463794110:True:=⟨⟩
theorem tw5129941491527690725:True:=⟨⟩
theorem tw4330991180929535625:True:=⟨⟩
theorem tw14680810799054715792:True:=⟨⟩
theorem tw15465583547859376084:True:=⟨⟩
theorem tw12545650446048111660:True:=⟨⟩
theorem tw12964062633142722049:True:=⟨⟩
theorem tw8954724947790862241:True:=⟨⟩
theorem tw15323061056901989689:True:=⟨⟩
theorem tw12697402775899135218:True:=⟨⟩
theorem tw13276833702047066570:True:=⟨⟩
theorem tw4865120608202669494:True:=⟨⟩
theorem tw9366186876789818649:True:=⟨⟩
theorem tw3825381680432690009:True:=⟨⟩
theorem tw6545459831842007687:True:=⟨⟩
theorem tw5562705714879443458:True:=⟨⟩
theorem tw8670592598250618684:True:=⟨⟩
theorem tw4003514286515377017:True:=⟨⟩
theorem tw8039898743254704824:True:=⟨⟩
theorem tw7405370479327515870:True:=⟨⟩
theorem tw8926073059922265167:True:=⟨⟩
theorem tw16911447347678364338:True:=⟨⟩
theorem tw10671993194109991074:True:=⟨⟩
theorem tw801188883035828325:True:=⟨⟩
theorem tw11747441341411472974:True:=⟨⟩
theorem tw1738449604571460292:True:=⟨⟩
theorem tw3048173636268286377:True:=⟨⟩
theorem tw8750641756726664098:True:=⟨⟩
theorem tw3428208774654942400:True:=⟨⟩
theorem tw11762732935092854722:True:=⟨⟩
theorem tw17543646024803572876:True:=⟨⟩
theorem tw17715228584645818311:True:=⟨⟩
theorem tw4214643438969434645:True:=⟨⟩
theorem tw1765746790642755670:True:=⟨⟩
theorem tw2147655035671245215:True:=⟨⟩
theorem tw7590242246935095584:True:=⟨⟩
theorem tw18033964682163610285:True:=⟨⟩
theorem tw5831826152446136541:True:=⟨⟩
theorem tw319490229744429039:True:=⟨⟩
theorem tw12463534575930455272:True:=⟨⟩
theorem tw10371403677947509614:True:=⟨⟩
theorem tw8016986591111299822:True:=⟨⟩
theorem tw5667191905956574498:True:=⟨⟩
theorem tw15757619958402403948:True:=⟨⟩
theorem tw9011297252748127280:True:=⟨⟩
theorem tw17507516277433102289:True:=⟨⟩
theorem tw17725567851889491901:True:=⟨⟩
theorem tw2535131229827767169:True:=⟨⟩
theorem tw15182601442485666286:True:=⟨⟩
theorem tw9902246824427894004:True:=⟨⟩
theorem tw11763958687534869680:True:=⟨⟩
theorem tw14243319542641745285:True:=⟨⟩
theorem tw13976329359730278593:True:=⟨⟩
theorem tw10193580565110878322:True:=⟨⟩
theorem tw15450133903358312512:True:=⟨⟩
theorem tw6276318231578556505:True:=⟨⟩
theorem tw7567860043142866799:True:=⟨⟩
theorem tw6471536016319253370:True:=⟨⟩
theorem tw9795494098798817151:True:=⟨⟩
theorem tw11388725880924503747:True:=⟨⟩
theorem tw15906405830009952519:True:=⟨⟩
theorem tw16041765032119523446:True:=⟨⟩
theorem tw12169248792132609375:True:=⟨⟩
theorem tw10731627585904783545:True:=⟨⟩
theorem tw2117800652203068133:True:=⟨⟩
theorem tw11660552598173695988:True:=⟨⟩
theorem tw5578676019213602690:True:=⟨⟩
theorem tw6824146438439059971:True:=⟨⟩
theorem tw3513820945434300789:True:=⟨⟩
theorem tw8116986973751701504:True:=⟨⟩
theorem tw13495492352098191164:True:=⟨⟩
theorem tw9814521365788848951:True:=⟨⟩
theorem tw15722566631808388753:True:=⟨⟩
theorem tw861740461228004733:True:=⟨⟩
theorem tw7106466396363661638:True:=⟨⟩
theorem tw12849039064130270240:True:=⟨⟩
theorem tw1134308104302756972:True:=⟨⟩
theorem tw3010439092301040486:True:=⟨⟩
theorem tw17816717856086174358:True:=⟨⟩
theorem tw11149061711742648548:True:=⟨⟩
theorem tw14036627289367018796:True:=⟨⟩
theorem tw5429477869994368367:True:=⟨⟩
theorem tw7940537527954018458:True:=⟨⟩
theorem tw2604901424036541063:True:=⟨⟩
theorem tw15487811534215124188:True:=⟨⟩
theorem tw18064312367536619883:True:=⟨⟩
theorem tw4824584372287218620:True:=⟨⟩
theorem tw9048559258887259956:True:=⟨⟩
theorem tw7884614384692140816:True:=⟨⟩
theorem tw16367165154766714319:True:=⟨⟩
theorem tw15516981214852613888:True:=⟨⟩
theorem tw2460405866545305436:True:=⟨⟩
theorem tw12551386086251720438:True:=⟨⟩
theorem tw10183426290553673610:True:=⟨⟩
theorem tw9290384812151408565:True:=⟨⟩
theorem tw15299981847786275131:True:=⟨⟩
theorem tw5943282786193848066:True:=⟨⟩
theorem tw17570233290061857690:True:=⟨⟩
theorem tw15359170853323125327:True:=⟨⟩
theorem tw13230364761691088398:True:=⟨⟩
theorem tw7574501811584800559:True:=⟨⟩
theorem tw11762900114938904890:True:=⟨⟩
theorem tw3061969403100960489:True:=⟨⟩
theorem tw9177684151223994519:True:=⟨⟩
theorem tw14810766176975304553:True:=⟨⟩
theorem tw14065372797180803292:True:=⟨⟩
theorem tw8783513367562574285:True:=⟨⟩
theorem tw5210627090501227785:True:=⟨⟩
theorem tw9024074512309037242:True:=⟨⟩
theorem tw7632206556856918147:True:=⟨⟩
theorem tw16535360979341041665:True:=⟨⟩
end Mine.hq
open PySem PySem.W PyProof.Rows
set_option maxHeartbeats 8000000 in
theorem Mine.hq:PySem.Challenge.rw_nu0236_01.Holds:=by
 w_on;o_law;k_head;(case hw=>w_witness2)
 k_fill
 intro w s₀ s₁ mg mb G Y fa o pm cd doc dV kV ho hd hcd hD hmg hg args vals as hpre hlay hrd hwl hlo
 have KX:=km_in_of Y
 have hT:=km_tabs_of Y Mine.Ey (List.mem_singleton.mpr rfl)
 have e1:Str.ofString "law"=⟨⟨[108,97,119]⟩⟩:=by decide +kernel
 have hmg1:mg (Str.ofString "law")=some (.ref fa):=hmg
 rw [e1] at hmg1
 clear ho hd hcd hD hmg
 wrow_args hpre hlay hrd hwl hlo
 exact Mine.T' Mine.Uj G (by kernel_rfl) KX hT ⟨by as_aux_lemma=>kernel_rfl,by as_aux_lemma=>kernel_rfl,by as_aux_lemma=>kernel_rfl,by as_aux_lemma=>kernel_rfl,by kernel_rfl,by as_aux_lemma=>kernel_rfl,by kernel_rfl,by kernel_rfl,by kernel_rfl,by kernel_rfl⟩ hg hmg1 (by assumption) (by assumption) (by assumption)
theorem PySem.Challenge.cw_nu0236_01_holds : PySem.Challenge.rw_nu0236_01.Holds :=
 Mine.hq
