import PyProof.Rows.All
import PySem.Eval
import Wide.All
import OpenK.AllK
import Wide.FinOn
import KE.KDictLaws
import Flt.Ops
import KE.LcSums
import KE.KDictOf
import KE.KSortTup
import KE.KDictSum
import KE.KEqDict
import PyProof.AttrMissHeap
import KE.KLam
import KE.KSortKey
import KE.KNestM
import Lean
import PySem.Challenge.RW_nu0236_01
set_option tactic.hygienic false
set_option bootstrap.genMatcherCode false
set_option genInjectivity false
set_option genSizeOf false
set_option backward.eqns.nonrecursive false
set_option maxRecDepth 100000
set_option linter.unusedVariables false
set_option linter.unusedSectionVars false
open Nat renaming le_trans->a_,lt_of_le_of_lt->c_,le_add_left->df,add_le_add_left->d7,le_add_right->eh,lt_of_lt_of_le->ei,le_of_lt->eA,le_refl->eJ,le_of_lt_succ->eX,add_comm->eY,succ_le_succ->fh,zero_le->fy,succ_pos->fB,lt_of_lt_of_eq->fC,lt_succ_self->fH,add_assoc->fJ,add_le_add->fP,le_succ_of_le->fZ,lt_add_of_pos_right->gk,le_of_eq->gv,add_le_add_right->gA,lt_trans->gG,mul_le_mul_left->gR,le_of_succ_le_succ->gZ,add_right_comm->g0,min_le_left->g8,add_sub_cancel_left->ib,le_antisymm->ir,zero_add->iW,sub_pos_of_lt->iX,not_lt->iY,lt_one_iff->iZ,sub_lt_sub_left->i3,le_of_ble_eq_true->ja,lt_irrefl->jg,casesOn->ji,lt_succ_of_lt->jq,sub_self->jB,sub_le->jQ,min_eq_left->j3,sub_le_of_le_add->j8,one_pos->j9,lt_or_ge->j',sub_lt->kf,le_of_not_lt->mN,lt_of_le_of_ne->ni,le_mul_of_pos_left->nj,le_of_sub_eq_zero->nH,eq_of_beq_eq_true->nI,succ_le_of_lt->nT,le_of_succ_le->nU,succ_lt_succ->oy,ne_of_gt->oz,not_lt_zero->o_,sub_add_cancel->pd,exists_eq_add_of_le->pC,lt_of_succ_lt->pJ,lt_of_add_right_lt->pK,le_add_right_of_le->pL,min_le_right->qg,add_lt_add_right->qD,add_sub_cancel'->rt,add_lt_add_left->ru,ne_of_lt->rx,succ->rV,ble->sS,succ_ne_zero->tV,min_eq_right->tW,sub_eq_zero_iff_le->uh,le_total->ui,sub_eq_zero_of_le->vA,le_succ->vZ,not_le->x8,lt_trichotomy->zx,lt_of_le_pred->zy,max_eq_right->Ab,lt_add_right->Ac,max_eq_left->BL,sub_one_sub_lt_of_lt->EC,lt_succ_iff_lt_or_eq->ED,min_self->GX,beq->GY,add_le_of_le_sub'->H_,sub_succ_lt_self->Ju,not_succ_le_self->Jv,rec->N3,lt_of_sub_pos->N4,succ_ne_self->OA,sub_add_comm->OB,zero_lt_one->Qg,sub_add_eq->QY,succ_inj->SQ,mul_succ->SR,max_zero->SV,sub_sub->UD,one_mul->UE,mod_lt->U8
open List renaming length_map->bb,length_append->bh,map_append->b_,mem_map->ck,getElem?_eq_getElem->dj,mem_singleton->dt,getD_eq_getElem?_getD->ec,getElem?_map->ee,not_mem_nil->eg,casesOn->el,map_map->et,getElem?_eq_some_iff->ew,length_drop->ey,append_assoc->eC,mem_append->eF,map_cons->eG,nodup_nil->eI,mem_cons->eK,lookup_cons->eM,getElem?_append_left->eN,nodup_append->eP,range->eQ,append_nil->eR,nodup_cons->eT,mem_range->eU,mem_iff_getElem?->eZ,length_cons->e_,length_range->ff,mem_of_getElem?->fi,length->fj,getElem?_append_right->fk,map_congr_left->fm,mem_map_of_mem->fE,getElem_mem->fO,drop_eq_getElem_cons->fQ,mem_append_left->fR,length_take->fS,mem_append_right->fT,exists_cons_of_ne_nil->gg,pairwise_map->gi,replicate->gm,mem_filter->gB,length_set->gJ,lookup_eq_some_iff->gT,length_eq_zero_iff->gU,drop_drop->ig,getElem?_set_ne->iH,cons_append->iI,getElem?_inj->iR,foldl_append->iS,flatMap_cons->iT,drop_left->iU,getElem?_eq_none_iff->i6,exists_mem_of_ne_nil->i7,length_singleton->i9,getElem?_eq_none->i_,pairwise_cons->jb,toArray->jf,map_eq_nil_iff->jt,getElem?_range->ju,filter_eq_self->jv,getElem?_concat_length->jz,filter_eq_nil_iff->jA,sum_cons->jC,find?_eq_none->jL,cons_prefix_cons->jR,size_toArray->j4,flatMap_append->kA,filter_cons_of_pos->k8,filter_cons_of_neg->k9,all_eq_true->k_,find?_eq_some_iff_append->mU,take_of_length_le->m_,append_of_mem->nc,reverse_cons->nJ,getElem?_set->nK,any_eq_false->nL,perm_ext_iff_of_nodup->oe,lt_irrefl->oh,mem_flatMap->ot,drop_length->ou,pairwise_iff_getElem->oA,length_pos_iff->oH,map_drop->oU,mem_mapIdx->o9,zip_cons_cons->pa,getElem?_drop->pb,lookup->pe,countP_cons_of_pos->pf,map_nil->pD,drop_eq_nil_of_le->pE,length_replicate->pV,map_reverse->p_,isEmpty_iff->qa,cons_ne_nil->qb,any_eq_true->qc,map_take->qh,mem_of_mem_take->qq,sum_append->qI,length_nil->qJ,forIn_cons->qK,find?_cons->qL,getElem_of_mem->qR,filterMap_cons->qS,ne_nil_of_mem->rE,drop_zero->rF,mem_of_find?_eq_some->sl,map_inj_left->sr,pairwise_mergeSort->tJ,getElem?_replicate->tK,getElem?_cons_zero->tL,getElem?_cons_succ->tM,countP_cons_of_neg->tN,range_succ_eq_map->ue,nil_prefix->uj,filter_map->uk,pairwise_and_iff->uY,mem_of_mem_drop->vG,forall_mem_cons->vH,filterMap->vI,drop->v3,replicate_succ->wG,mergeSort_perm->wH,prefix_append->xU,map_replicate->xV,length_mapIdx->xW,filter_append->xX,ext_getElem?->yY,prefix_of_prefix_length_le->zz,getElem_map->zM,flatMap_nil->zN,eq_nil_iff_forall_not_mem->zO,nil_append->BB,find?_some->BC,foldr_map->B8,drop_take->B9,getElem?_take_of_lt->Ew,head_eq_of_cons_eq->EE,all_eq_not_any_not->EF,set_set->GF,map_set->GH,getElem?_set_self->GI,find?_cons_of_pos->GJ,find?_cons_of_neg->GK,drop_of_length_le->GL,take_append_drop->GZ,length_filter_le->G0,eq_replicate_iff->G1,dropLast_eq_take->G2,cons_lt_cons_iff->G3,map_id->Ia,getElem?_mapIdx->Ib,forall_mem_nil->Jw,mapIdx_concat->KR,findIdx?_cons->KS,filterMap_map->KU,take_add_one->K_,flatten_cons->La,find?_isSome->Lb,take_length->N5,nil_sublist->N6,map_snd_zip->N7,le_antisymm->N8,isEmpty_nil->N9,flatMap_map->N_,cons->Oa,append_inj'->Ob,not_lt_nil->OC,length_zip->OD,take_left->Qh,foldl_nil->Qi,take_nil->QZ,le_trans->Q0,le_total->Q1,not_lt->SW,filter->SX,foldl->UG,take->U9,getD->U'
open PySem renaming wpAny_bind->b5,wpAny_pure->dk,wpAny_mono->er,Value->eH,Shared->eL,wpAny_holding->f6,wpAny->gc,Expr->gf,Addr->gY,model->hU,mainGlobals->iD,Around->jc,valueAt->jm,builtinsNs->j0,Str->j7,wpAny_newObj_type->ko,wpAny_standAt->mM,wpAny_call_entry->ng,starEach->nh,call->nC,sizeLine_eq->nD,wpAny_rule->nF,wpAny_ite_false->nV,wpAny_truthy_bool->oq,intKind_is->pI,wpAny_callSpecial?_slot->pR,DictEntry->pS,wpAny_forIn_list->qP,compareOp->qQ,swappedStores->ro,assignInOrder->rp,wpAny_specialOf->rR,letOwnedTupleGo->rS,wpAny_typeOf->so,codeAny->sq,wpAny_seqItems->sT,typeLookup->sU,compTurn->sV,backTo->sW,wpAny_sequenceKey->t8,wpAny_field->t9,slot_list_setitem->t_,sliceBounds->ua,getMethod_builtin->ub,wpAny_getItem_list_slice->uf,Comprehension->ug,swapsWith->vx,cLine->vy,NameKind->vz,newEnv->vT,eval->vU,call_meets->vV,Heap->vW,Builtin->vX,wpAny_notOrdered_dict->wK,sizeLine->x6,assign->x7,holding->yQ,getItem->yR,codeAmong->yS,Arguments->yW,Stmt->zt,Env->zv,wpAny_newList->zL,wpAny_tupleItemsOf->z8,sysModules->z9,assignEach->z_,wpAny_pyIter_list->BG,callWith->BH,numAt->Em,Scope->En,CmpOp->Et,wpAny_execs_nil->Ez,truthy->EA,Pos->EB,standAt->GA,setItem->GB,Program->GC,wpAny_listPart->GP,newFunctionEnv->GQ,isTrue->GR,dictSetDefault->GS,constantsAlone->GU,closureFor->GV,FuncData->GW,wpAny_UnaryOp->Jp,evalPart_none->Jq,behindInMarks->Jr,slicePick->KN,wpAny_Assign_Subscript->KY,rawInt->KZ,dictSet->K0,call_meetsIn->K1,bootBuiltins->K4,IsPart->K8,isSubtype_tuple_tuple->N1,wpAny_Slice->Ou,keywordEach->Ov,Sem->Ox,wpAny_call->QP,wpAny_assign_Tuple->QQ,wpAny_Constant_int->QR,reduceHash->QS,pyIter->QT,getattributeRaised->QU,entry_list_setitem->QV,wpAny_isNot_plain->R4,wpAny_dictFind_of->R5,wpAny_collect_seq->R6,wpAny_builtinsFor->R7,wpAny_assign_Name->R8,spliced->R9,slot_list_getitem->R',slot_dict_setitem->R_,foldedSetIterable->Sa,atKey->Sb,args_list_setitem->Sd,wpAny_isInstance->Sv,wpAny_askSetting->Sw,storeName->Sx,seqIndex?->Sy,noteFrame->Sz,noFill_tuple_add->SA,getMethod->SD,args_list_append->SF,TriplesOk->SJ,theTreesLotGoes->Uk,codeAny_builtin->Ul,Fin->Um,wpAny_newTuple->UU,wpAny_loadPart->UW,wpAny_is_plain->UX,pyNext->UY,methodCallForm->UZ,keeperOf->U0,bindName->U1,backToKw->U2,swapsWithSole->VQ,seq_tuple_add->VR,plainId_quiet->VU,methodCallPos->VV,comprehension->VW,attributeBase->VX,wpAny_lt_int->Wg,relabel->Wh,newList->Wi,intKind->Wj,concat_meets->Wk,argBest->Wl,OsState->Wr,Keyword->Ws,wpAny_of_eq->Yp,wpAny_nsGet->Yq,wpAny_noted->Yr,wpAny_letGo->Ys,wpAny_alloc->Yt,again->Yu,World->Yv,Reads->Yy,typeIs_int->YB,sliceRange->YC,nsFind->YD,isInstance->YE,checkCount->YF,cellOf->YG,Obj->YI,BoolOp->YV
open Option.some renaming inj->d5,injEq->jK
open Option renaming casesOn->d_,map_eq_some_iff->fW,bind_eq_some_iff->jh,map_some->jV,isNone_iff_eq_none->BK,isNone_none->H9,isSome_map->Jt,getD_none->KQ,ctorIdx->N2
open Array renaming length_toList->eB,getElem?_toList->gF,getElem?_eq_getElem->ox,toList_append->oC,toList_push->sm,isEmpty->wI,getElem?_eq_none->EH,forIn_toList->Jy,any_toList->Lf
open Bool renaming and_eq_true->eV,not_eq_true'->fL,false_eq_true->fX,false_ne_true->gM,not_eq_false'->jM,or_eq_true->j1,casesOn->j5,not_eq_true->mK,eq_false_iff->nM,and_eq_true_iff->qr,not_true->wO,eq_iff_iff->BE,and_false->Ql,false_or->Q2,and_true->Q3
open PySem.Heap renaming get?_push_size->eW,get?_push_of_some->fo,SameBut->iE,get?_update_self->nE,lt_size->rq,size_push->rD,ExtBut->SK
open List.cons renaming inj->fq,injEq->ix
open PySem.NameKind renaming free->fD,cell->f7,casesOn->H8
open PySem.Obj renaming mapSeq->fK,data_mapDictKeys->Js,isFreed_of_dict->KP,data_mapDict->Oy
open PySem.Challenge renaming rw_nu0236_01->fU
open Classical renaming byContradiction->gh,propDecidable->WD,not_not->WG
open PyProof.Rows renaming seqObj->gu,listUpdate_at->rr,get?_update_seq->rU,slot_tuple_getitem->Aa,neg_int->BA,seqEpoch_at->Eu,IntsAre->GD,listItems_at->K9,truthy_int->Uw,lt_int->Ux,le_int->Uy,gt_int->Uz,ge_int->UA,entry_list_sort->UB,assign_Name->UC,slot_list_sort->U5,slicePart_none->U6,failedOf->U7,spliced_none->Wu,spliced_more->Wv,plain_sorted->Ww,entry_sorted->Wx,Assign_Tuple->Wy,kind_sorted->Yz,importsNone->YA,isTrue_and->YW
open Int renaming natCast_nonneg->gE,ofNat_le->gS,ofNat_lt->h9,le_trans->jD,sub_add_cancel->nq,not_lt->nr,not_lt_of_ge->oB,ediv_one->pM,toNat->qi,max_eq_right->qj,add_sub_cancel->rW,eq_ofNat_of_zero_le->tX,le_antisymm->uZ,sub_nonneg_of_le->v5,le_refl->v7,lt_irrefl->xY,lt_of_le_of_lt->x_,lt_trans->zA,le_of_lt->zB,neg_neg->BD,ofNat_natAbs_of_nonpos->C8,not_le->C9,toNat_sub->EG,add_comm->G4,sub_neg->Jx,toNat_le_toNat->Lc,natAbs->Ld,lt_of_lt_of_le->Le,toNat_eq_zero->Oc,natAbs_sub_le->Od,ofNat->OE,lt_of_not_ge->OF,min_eq_left->Qj,max_eq_left->Qk,ofNat_sub->Sg,le_natAbs->Sh,mul_comm->SY,lt_toNat->S1,le_total->S2,le_of_eq->S3,add_zero->S4,one_mul->UK
open PySem.Heap.SameBut renaming update->gK
open PySem.Builtin.Range renaming rangeSize->iw,rangeFitsLong->wF,small->Bz
open ForInStep renaming yield->iN
open PySem.Str renaming ofString->iV
open PySem.Value renaming none->jn,casesOn->p9,isStr->qd,type->wL,builtin->C6,noConfusion->KO,ref->K7
open Prod.mk renaming inj->k7,injEq->BI
open List.Pairwise renaming imp->l_,imp_of_mem->x9,map->B_
open PySem.PyData renaming eqv->mT,keyHash->pB,depthAll->qp,eqvAll->sk,canLayAll0->xS,depth->Eo,strOk->Qd
open PySem.W.Looks renaming of_pure->ny
open PySem.Builtin.Slice renaming slicePlaces->nz,sliceAdjust->qf,sliceApplied->wN,slicePartIndex->SN,sliceFields->SP
open Ne renaming symm->nA
open PySem.Builtin.Tuple renaming tupleExact->nG,tupleHashOf->qe,tupleItemsOf->wM,tupleIsExact->SM
open Function renaming comp->ow
open PySem.Builtin.List renaming listSubscript?->pT,listTooLong->yU,listSameRef->yV,listUpdate->Un,listItems->Uo,listFitsIndex->Up,listAllItems->Uq
open PySem.W renaming dictOf->rv,findIn->sX,instObj->uc,emptyDict->yT,Frag->zr,tabObj->K5,hideAll->K6,kat_snds->Ow,getL->QW,kas_ask->Se,specialIn->SG,plainOver->SH,hasDictIn->SI,keepIn->U3,Ground->U4,takesIn->Wm,takerIn->Wn,putName_dict->Wo,putL->Wq,codeHd_of_K->Yw,callWith_of->Yx,lookIn->YH
open List.Perm renaming eq_of_pairwise->rz,append_left->B',trans->Ic,of_eq->Wz,map->WA,flatMap_right->WB,append_right->WC
open Int.ofNat renaming inj->rA
open Eq renaming symm->rG
open PySem.F renaming slot_list_append->rT,slot_tuple_hash->tH,slot_list_getattribute->tT,slot_dict_get->tU,slot_dict_setdefault->zu,entry_list_append->By,plainAttrs_list->B6,plainAttrs_dict->B7,entry_dict_get->C7,slot_tuple_lt->Er,slot_list_pop->Es,args_tuple_add_2->Oz,entry_tuple_add->Qe,slot_tuple_add->QX,slot_int_rmul->Sf,type_list_pop->YJ,type_list_append->YK,type_dict_setdefault->YL,type_dict_get->YM,entry_tuple_lt->YN,entry_list_pop->YO,entry_dict_setdefault->YP,args_tuple_lt_2->YQ,args_list_pop_1->YR,args_dict_setdefault_3->YS,args_dict_get_3->YT,args_dict_get_2->YU
open PySem.Heap.IsSliceOf renaming new->tG
open PySem.Expr renaming casesOn->ud
open PySem.AutoListH renaming list_append_list_val_0->vY,list___mul___list_int_3->Wt
open PySem.Keeper renaming boundFrame->xT,machine->Bx,frame->Ep
open Prod renaming fst->yX,ext->Qf
open PySem.Builtin.Dict renaming updateFrom->zw,selfAndRest->Ur,pairItems->Us,notOrdered->Ut,keyAndDefault->Uu,addKeywords->Uv
open List.Sublist renaming cons_cons->zP,map->UH,cons->UI,append_left->UJ
open PUnit renaming unit->BJ
namespace Mine
universe u
@[elab_as_elim] theorem WH {c:Sort u} {a b:c} {P:c->Prop} (h:a=b) (m:P b):P a:=h▸m
@[elab_as_elim] theorem WI {c:Sort u} {a b:c} {P:c->Prop} (h:b=a) (m:P b):P a:=h▸m
variable {y ai aF:Prop}
theorem iK (h:y/\ai) (k:y->ai->aF):aF:=by
 rcases h with ⟨b,a⟩;exact k b a
variable {h:Type} {dm:h->Prop}
theorem j_ (b:∃a:h,dm a) (k:∀a,dm a->y):y:=by
 rcases b with ⟨a,c⟩;exact k a c
variable {t:Type} {dA:h->t} {dB:t->Prop}
@[elab_as_elim] theorem rX (b:t) (c:∃a:h,b=dA a) (k:∀a,dB (dA a)):dB b:=by
 rcases c with ⟨a,rfl⟩;exact k a
variable {dp:h}
@[elab_as_elim] theorem Qm (a:h) (b:a=dp/\y) (k:y->dm dp):dm a:=by
 rcases b with ⟨rfl,c⟩;exact k c
variable {dW:t} {dn:h->t->Prop}
@[elab_as_elim] theorem KV (a:h) (b:t) (c:a=dp/\b=dW) (k:dn dp dW):dn a b:=by
 rcases c with ⟨rfl,rfl⟩;exact k
variable {aR:Prop}
theorem mW (h:y/\ai/\aF) (k:y->ai->aF->aR):aR:=by
 rcases h with ⟨c,a,b⟩;exact k c a b
variable {dz:h->Prop}
theorem eS (b:∃a:h,dm a/\dz a) (k:∀a,dm a->dz a->y):y:=by
 rcases b with ⟨a,c,d⟩;exact k a c d
@[elab_as_elim] theorem iQ (b:t) (c:∃a:h,dm a/\dA a=b) (k:∀a,dm a->dB (dA a)):dB b:=by
 rcases c with ⟨a,d,rfl⟩;exact k a d
@[elab_as_elim] theorem Lg (b:t) (c:∃a:h,dm a/\b=dA a) (k:∀a,dm a->dB (dA a)):dB b:=by
 rcases c with ⟨a,d,rfl⟩;exact k a d
@[elab_as_elim] theorem jj (b:t) (c:∃a:h,b=dA a/\dm a) (k:∀a,dm a->dB (dA a)):dB b:=by
 rcases c with ⟨a,rfl,d⟩;exact k a d
theorem Cb (c:y/\∃a:h,∃b:t,dn a b) (k:y->∀a,∀b,dn a b->ai):ai:=by
 rcases c with ⟨e,a,b,d⟩;exact k e a b d
variable {dF:h->Prop}
theorem gj (b:∃a:h,dm a/\dz a/\dF a) (k:∀a,dm a->dz a->dF a->y):y:=by
 rcases b with ⟨a,c,e,d⟩;exact k a c e d
variable {du:h->t->Prop}
theorem i5 (c:∃b:h,∃a:t,dn b a/\du b a) (k:∀b,∀a,dn b a->du b a->y):y:=by
 rcases c with ⟨b,a,e,d⟩;exact k b a e d
variable {dD:h->t->Prop}
theorem jS (f:∃b:h,∃a:t,dn b a/\du b a/\dD b a) (k:∀b,∀a,dn b a->du b a->dD b a->y):y:=by
 rcases f with ⟨b,a,d,c,e⟩;exact k b a d c e
variable {a9:Type} {dJ:h->t->a9} {dK:a9->Prop}
@[elab_as_elim] theorem v8 (c:a9) (f:∃b:h,∃a:t,c=dJ b a/\dn b a/\du b a) (k:∀b,∀a,dn b a->du b a->dK (dJ b a)):dK c:=by
 rcases f with ⟨b,a,rfl,d,e⟩;exact k b a d e
theorem Ie (e:y/\ai/\∃a:h,dm a/\dz a/\dF a) (k:y->ai->∀a,dm a->dz a->dF a->aF):aF:=by
 rcases e with ⟨g,f,a,c,d,b⟩;exact k g f a c d b
theorem oJ (e:y/\ai/\∃b:h,∃a:t,dn b a/\du b a) (k:y->ai->∀b,∀a,dn b a->du b a->aF):aF:=by
 rcases e with ⟨g,f,b,a,d,c⟩;exact k g f b a d c
variable {dI:h->t->Prop}
theorem nW (g:∃b:h,∃a:t,dn b a/\du b a/\dD b a/\dI b a) (k:∀b,∀a,dn b a->du b a->dD b a->dI b a->y):y:=by
 rcases g with ⟨b,a,e,d,f,c⟩;exact k b a e d f c
variable {dQ:h->t->Prop}
theorem gq (i:∃b:h,∃a:t,dn b a/\du b a/\dD b a/\dI b a/\dQ b a) (k:∀b,∀a,dn b a->du b a->dD b a->dI b a->dQ b a->y):y:=by
 rcases i with ⟨b,a,f,e,g,d,c⟩;exact k b a f e g d c
variable {aA:Type} {dM:h->t->a9->aA} {dw dC dG:h->t->a9->Prop} {dN:aA->Prop}
@[elab_as_elim] theorem g5 (d:aA) (i:∃b:h,∃a:t,∃c:a9,d=dM b a c/\dw b a c/\dC b a c/\dG b a c) (k:∀b,∀a,∀c,dw b a c->dC b a c->dG b a c->dN (dM b a c)):dN d:=by
 rcases i with ⟨b,a,c,rfl,g,f,e⟩;exact k b a c g f e
variable {ba bl bA:Prop}
theorem OG (h:y/\ai/\aF/\aR/\ba/\bl) (k:y->ai->aF->aR->ba->bl->bA):bA:=by
 rcases h with ⟨f,e,c,b,d,a⟩;exact k f e c b d a
variable {bX:Prop}
theorem Ad (h:y/\ai/\aF/\aR/\ba/\bl/\bA) (k:y->ai->aF->aR->ba->bl->bA->bX):bX:=by
 rcases h with ⟨g,f,d,c,e,b,a⟩;exact k g f d c e b a
theorem Cc {G:Prop} (h:y/\ai/\aF/\aR/\ba/\bl/\bA/\bX) (k:y->ai->aF->aR->ba->bl->bA->bX->G):G:=by
 rcases h with ⟨i,g,d,c,f,b,a,e⟩;exact k i g d c f b a e
theorem C_ {c:Prop} {a:Prop} {b:Prop} {G:Prop} (h:y/\ai/\aF/\aR/\ba/\bl/\bA/\bX/\c/\a/\b) (k:y->ai->aF->aR->ba->bl->bA->bX->c->a->b->G):G:=by
 rcases h with ⟨p,o,f,g,l,e,n,i,j,m,d⟩;exact k p o f g l e n i j m d
@[elab_as_elim] theorem G5 (a:h) (i:y/\ai/\aF/\aR/\ba/\bl/\bA/\bX/\a=dp) (k:y->ai->aF->aR->ba->bl->bA->bX->dm dp):dm a:=by
 rcases i with ⟨l,j,e,d,g,c,b,f,rfl⟩;exact k l j e d g c b f
@[elab_as_elim] theorem yZ (c:a9) (i:y/\ai/\aF/\aR/\ba/\bl/\bA/\∃a:h,∃b:t,c=dJ a b) (k:y->ai->aF->aR->ba->bl->bA->∀a,∀b,dK (dJ a b)):dK c:=by
 rcases i with ⟨m,l,f,e,g,d,j,a,b,rfl⟩;exact k m l f e g d j a b
theorem Lh (d:y/\ai/\aF/\∃a:h,dm a) (k:y->ai->aF->∀a,dm a->aR):aR:=by
 rcases d with ⟨f,e,b,a,c⟩;exact k f e b a c
theorem Li (g:y/\∃a:h,dm a/\dz a/\dF a/\∃b:t,dn a b) (k:y->∀a,dm a->dz a->dF a->∀b,dn a b->ai):ai:=by
 rcases g with ⟨i,a,e,d,f,b,c⟩;exact k i a e d f b c
theorem Q4 (e:y/\∃a:h,∃c:t,∃b:a9,dw a c b) (k:y->∀a,∀c,∀b,dw a c b->ai):ai:=by
 rcases e with ⟨f,a,c,b,d⟩;exact k f a c b d
@[elab_as_elim] theorem S5 (b:t) (d:y/\∃a:h,b=dA a/\dm a) (k:y->∀a,dm a->dB (dA a)):dB b:=by
 rcases d with ⟨e,a,rfl,c⟩;exact k e a c
theorem OH (f:∃a:h,dm a/\dz a/\dF a/\∃b:t,dn a b) (k:∀a,dm a->dz a->dF a->∀b,dn a b->y):y:=by
 rcases f with ⟨a,g,e,d,b,c⟩;exact k a g e d b c
theorem Ig (d:∃b:h,∃a:t,∃c:a9,dw b a c) (k:∀b,∀a,∀c,dw b a c->y):y:=by
 rcases d with ⟨b,a,c,e⟩;exact k b a c e
variable {dH:h->t->a9->aA->Prop}
theorem G6 (f:∃b:h,∃a:t,∃d:a9,∃c:aA,dH b a d c) (k:∀b,∀a,∀d,∀c,dH b a d c->y):y:=by
 rcases f with ⟨b,a,d,c,e⟩;exact k b a d c e
variable {aY:Type} {dO:h->t->a9->aA->aY->Prop}
theorem zQ (g:∃b:h,∃a:t,∃d:a9,∃c:aA,∃e:aY,dO b a d c e) (k:∀b,∀a,∀d,∀c,∀e,dO b a d c e->y):y:=by
 rcases g with ⟨b,a,d,c,e,f⟩;exact k b a d c e f
variable {bY:Type}
theorem EI {g:h->t->a9->aA->aY->bY->Prop} (j:∃b:h,∃a:t,∃d:a9,∃c:aA,∃e:aY,∃f:bY,g b a d c e f) (k:∀b,∀a,∀d,∀c,∀e,∀f,g b a d c e f->y):y:=by
 rcases j with ⟨b,a,d,c,e,f,i⟩;exact k b a d c e f i
theorem Jz {i:Type} {j:h->t->a9->aA->aY->bY->i->Prop} (m:∃b:h,∃a:t,∃d:a9,∃c:aA,∃f:aY,∃g:bY,∃e:i,j b a d c f g e) (k:∀b,∀a,∀d,∀c,∀f,∀g,∀e,j b a d c f g e->y):y:=by
 rcases m with ⟨b,a,d,c,f,g,e,l⟩;exact k b a d c f g e l
@[elab_as_elim] theorem Q5 (d:aA) (f:∃b:h,∃a:t,∃c:a9,d=dM b a c/\dw b a c) (k:∀b,∀a,∀c,dw b a c->dN (dM b a c)):dN d:=by
 rcases f with ⟨b,a,c,rfl,e⟩;exact k b a c e
theorem Dd (e:y) (d:ai) (b:aF) (a:aR) (c:ba):y/\ai/\aF/\aR/\ba:=⟨e,d,b,a,c⟩
theorem uo (g:y) (f:ai) (d:aF) (c:aR) (e:ba) (b:bl) (a:bA):y/\ai/\aF/\aR/\ba/\bl/\bA:=⟨g,f,d,c,e,b,a⟩
theorem Cd (h:y) (g:ai) (d:aF) (c:aR) (f:ba) (b:bl) (a:bA) (e:bX):y/\ai/\aF/\aR/\ba/\bl/\bA/\bX:=⟨h,g,d,c,f,b,a,e⟩
theorem Lj (e:y) (a:h) (c:t) (b:a9) (d:dw a c b):y/\∃a:h,∃c:t,∃b:a9,dw a c b:=⟨e,a,c,b,d⟩
theorem OI (b:h) (a:t) (c:dn b a):∃b:h,∃a:t,dn b a:=⟨b,a,c⟩
theorem De (b:h) (a:t) (d:a9) (c:aA) (e:dH b a d c):∃b:h,∃a:t,∃d:a9,∃c:aA,dH b a d c:=⟨b,a,d,c,e⟩
theorem uq {g:h->t->a9->aA->aY->bY->Prop} (b:h) (a:t) (d:a9) (c:aA) (e:aY) (f:bY) (i:g b a d c e f):∃b:h,∃a:t,∃d:a9,∃c:aA,∃e:aY,∃f:bY,g b a d c e f:=⟨b,a,d,c,e,f,i⟩
theorem oK (a:h) (b:dm a):∃a:h,dm a:=⟨a,b⟩
theorem iz (c:y) (a:ai) (b:aF):y/\ai/\aF:=⟨c,a,b⟩
theorem ej (a:h) (b:dm a) (c:dz a):∃a:h,dm a/\dz a:=⟨a,b,c⟩
theorem ur (d:y) (a:ai) (c:aF) (b:aR):y/\ai/\aF/\aR:=⟨d,a,c,b⟩
theorem tO (d:y) (a:h) (c:dm a) (b:dz a):y/\∃a:h,dm a/\dz a:=⟨d,a,c,b⟩
theorem gr (a:h) (b:dm a) (d:dz a) (c:dF a):∃a:h,dm a/\dz a/\dF a:=⟨a,b,d,c⟩
theorem nB (b:h) (a:t) (d:dn b a) (c:du b a):∃b:h,∃a:t,dn b a/\du b a:=⟨b,a,d,c⟩
theorem qA (b:h) (a:t) (c:a9) (d:dw b a c):∃b:h,∃a:t,∃c:a9,dw b a c:=⟨b,a,c,d⟩
theorem qT (e:y) (d:ai) (b:h) (a:t) (c:dn b a):y/\ai/\∃b:h,∃a:t,dn b a:=⟨e,d,b,a,c⟩
theorem Df (e:y) (a:h) (b:t) (c:dn a b) (d:du a b):y/\∃a:h,∃b:t,dn a b/\du a b:=⟨e,a,b,c,d⟩
variable {dR:h->Prop}
theorem qU (a:h) (e:dm a) (c:dz a) (b:dF a) (d:dR a):∃a:h,dm a/\dz a/\dF a/\dR a:=⟨a,e,c,b,d⟩
theorem sY (a:h) (e:dm a) (c:dz a) (b:t) (d:dn a b):∃a:h,dm a/\dz a/\∃b:t,dn a b:=⟨a,e,c,b,d⟩
theorem Dg (a:h) (e:dm a) (b:t) (c:dn a b) (d:du a b):∃a:h,dm a/\∃b:t,dn a b/\du a b:=⟨a,e,b,c,d⟩
theorem nu (b:h) (a:t) (d:dn b a) (c:du b a) (e:dD b a):∃b:h,∃a:t,dn b a/\du b a/\dD b a:=⟨b,a,d,c,e⟩
theorem wQ (f:y) (e:ai) (d:aF) (a:h) (b:t) (c:dn a b):y/\ai/\aF/\∃a:h,∃b:t,dn a b:=⟨f,e,d,a,b,c⟩
theorem rH (f:y) (e:ai) (b:h) (a:t) (d:dn b a) (c:du b a):y/\ai/\∃b:h,∃a:t,dn b a/\du b a:=⟨f,e,b,a,d,c⟩
theorem va (f:y) (e:ai) (b:h) (a:t) (c:a9) (d:dw b a c):y/\ai/\∃b:h,∃a:t,∃c:a9,dw b a c:=⟨f,e,b,a,c,d⟩
theorem wR (f:y) (a:h) (d:dm a) (c:dz a) (e:dF a) (b:dR a):y/\∃a:h,dm a/\dz a/\dF a/\dR a:=⟨f,a,d,c,e,b⟩
theorem nX (f:y) (a:h) (b:t) (d:dn a b) (e:du a b) (c:dD a b):y/\∃a:h,∃b:t,dn a b/\du a b/\dD a b:=⟨f,a,b,d,e,c⟩
theorem Dh (f:y) (a:h) (c:t) (b:a9) (e:dw a c b) (d:dC a c b):y/\∃a:h,∃c:t,∃b:a9,dw a c b/\dC a c b:=⟨f,a,c,b,e,d⟩
theorem pg (b:h) (a:t) (e:dn b a) (d:du b a) (f:dD b a) (c:dI b a):∃b:h,∃a:t,dn b a/\du b a/\dD b a/\dI b a:=⟨b,a,e,d,f,c⟩
theorem uu (g:y) (f:ai) (b:h) (a:t) (c:a9) (d:aA) (e:dH b a c d):y/\ai/\∃b:h,∃a:t,∃c:a9,∃d:aA,dH b a c d:=⟨g,f,b,a,c,d,e⟩
variable {dS:h->t->a9->aA->Prop}
theorem wU (g:y) (a:h) (c:t) (b:a9) (d:aA) (f:dH a c b d) (e:dS a c b d):y/\∃a:h,∃c:t,∃b:a9,∃d:aA,dH a c b d/\dS a c b d:=⟨g,a,c,b,d,f,e⟩
theorem EJ (g:y) (a:h) (c:t) (b:a9) (d:aA) (e:aY) (f:dO a c b d e):y/\∃a:h,∃c:t,∃b:a9,∃d:aA,∃e:aY,dO a c b d e:=⟨g,a,c,b,d,e,f⟩
theorem qV (b:h) (a:t) (f:dn b a) (e:du b a) (g:dD b a) (d:dI b a) (c:dQ b a):∃b:h,∃a:t,dn b a/\du b a/\dD b a/\dI b a/\dQ b a:=⟨b,a,f,e,g,d,c⟩
variable {dP:h->t->a9->Prop}
theorem sv (b:h) (a:t) (c:a9) (f:dw b a c) (g:dC b a c) (e:dG b a c) (d:dP b a c):∃b:h,∃a:t,∃c:a9,dw b a c/\dC b a c/\dG b a c/\dP b a c:=⟨b,a,c,f,g,e,d⟩
variable {dY:h->t->Prop}
theorem nY (b:h) (a:t) (f:dn b a) (e:du b a) (i:dD b a) (d:dI b a) (c:dQ b a) (g:dY b a):∃b:h,∃a:t,dn b a/\du b a/\dD b a/\dI b a/\dQ b a/\dY b a:=⟨b,a,f,e,i,d,c,g⟩
variable {dX:h->t->a9->Prop}
theorem gC (b:h) (a:t) (c:a9) (f:dw b a c) (i:dC b a c) (e:dG b a c) (d:dP b a c) (g:dX b a c):∃b:h,∃a:t,∃c:a9,dw b a c/\dC b a c/\dG b a c/\dP b a c/\dX b a c:=⟨b,a,c,f,i,e,d,g⟩
variable {dZ:h->t->a9->aA->Prop}
theorem vb {e:h->t->a9->aA->Prop} (b:h) (a:t) (d:a9) (c:aA) (j:dH b a d c) (g:dS b a d c) (f:dZ b a d c) (i:e b a d c):∃b:h,∃a:t,∃d:a9,∃c:aA,dH b a d c/\dS b a d c/\dZ b a d c/\e b a d c:=⟨b,a,d,c,j,g,f,i⟩
@[elab_as_elim] theorem Va (a:h) (b:y/\a=dp) (k:y->dm dp):dm a:=by
 rcases b with ⟨c,rfl⟩;exact k c
@[elab_as_elim] theorem S6 (a:h) (b:y/\ai/\a=dp) (k:y->ai->dm dp):dm a:=by
 rcases b with ⟨d,c,rfl⟩;exact k d c
theorem qW (c:∃b:h,∃a:t,dn b a) (k:∀b,∀a,dn b a->y):y:=by
 rcases c with ⟨b,a,d⟩;exact k b a d
@[elab_as_elim] theorem Lk (c:a9) (d:∃b:h,∃a:t,c=dJ b a) (k:∀b,∀a,dK (dJ b a)):dK c:=by
 rcases d with ⟨b,a,rfl⟩;exact k b a
theorem wV (h:y/\ai/\aF/\aR) (k:y->ai->aF->aR->ba):ba:=by
 rcases h with ⟨d,a,c,b⟩;exact k d a c b
@[elab_as_elim] theorem Ll (b:t) (c:y/\ai/\∃a:h,b=dA a) (k:y->ai->∀a,dB (dA a)):dB b:=by
 rcases c with ⟨e,d,a,rfl⟩;exact k e d a
@[elab_as_elim] theorem Qn (b:t) (d:∃a:h,dm a/\dA a=b/\dz a) (k:∀a,dm a->dz a->dB (dA a)):dB b:=by
 rcases d with ⟨a,e,rfl,c⟩;exact k a e c
@[elab_as_elim] theorem Lm (c:a9) (e:∃b:h,∃a:t,c=dJ b a/\dn b a) (k:∀b,∀a,dn b a->dK (dJ b a)):dK c:=by
 rcases e with ⟨b,a,rfl,d⟩;exact k b a d
theorem qk (h:y/\ai/\aF/\aR/\ba) (k:y->ai->aF->aR->ba->bl):bl:=by
 rcases h with ⟨e,d,b,a,c⟩;exact k e d b a c
@[elab_as_elim] theorem Di (b:t) (d:y/\ai/\aF/\∃a:h,b=dA a) (k:y->ai->aF->∀a,dB (dA a)):dB b:=by
 rcases d with ⟨f,e,c,a,rfl⟩;exact k f e c a
theorem Dj (d:y/\ai/\∃a:h,dm a/\dz a) (k:y->ai->∀a,dm a->dz a->aF):aF:=by
 rcases d with ⟨f,e,a,b,c⟩;exact k f e a b c
@[elab_as_elim] theorem rY (c:a9) (d:y/\ai/\∃b:h,∃a:t,c=dJ b a) (k:y->ai->∀b,∀a,dK (dJ b a)):dK c:=by
 rcases d with ⟨f,e,b,a,rfl⟩;exact k f e b a
@[elab_as_elim] theorem Ln (d:aA) (e:y/\∃a:h,∃c:t,∃b:a9,d=dM a c b) (k:y->∀a,∀c,∀b,dN (dM a c b)):dN d:=by
 rcases e with ⟨f,a,c,b,rfl⟩;exact k f a c b
@[elab_as_elim] theorem G7 (b:t) (e:y/\∃a:h,b=dA a/\dm a/\dz a) (k:y->∀a,dm a->dz a->dB (dA a)):dB b:=by
 rcases e with ⟨f,a,rfl,c,d⟩;exact k f a c d
theorem rZ (e:∃a:h,dm a/\dz a/\dF a/\dR a) (k:∀a,dm a->dz a->dF a->dR a->y):y:=by
 rcases e with ⟨a,f,c,b,d⟩;exact k a f c b d
@[elab_as_elim] theorem Lo (c:a9) (f:∃b:h,∃a:t,dn b a/\du b a/\c=dJ b a) (k:∀b,∀a,dn b a->du b a->dK (dJ b a)):dK c:=by
 rcases f with ⟨b,a,e,d,rfl⟩;exact k b a e d
theorem ya (f:∃b:h,∃a:t,∃c:a9,dw b a c/\dC b a c) (k:∀b,∀a,∀c,dw b a c->dC b a c->y):y:=by
 rcases f with ⟨b,a,c,d,e⟩;exact k b a c d e
@[elab_as_elim] theorem Lq {f:t->a9->aA} {d:t->a9->Prop} {G:h->aA->Prop} (e:h) (c:aA) (i:dp=e/\∃a:t,∃b:a9,c=f a b/\d a b) (k:∀a,∀b,d a b->G dp (f a b)):G e c:=by
 rcases i with ⟨rfl,a,b,rfl,g⟩;exact k a b g
@[elab_as_elim] theorem OJ (b:t) (e:y/\ai/\aF/\aR/\∃a:h,b=dA a) (k:y->ai->aF->aR->∀a,dB (dA a)):dB b:=by
 rcases e with ⟨g,f,d,c,a,rfl⟩;exact k g f d c a
@[elab_as_elim] theorem zR (c:a9) (e:y/\ai/\aF/\∃a:h,∃b:t,c=dJ a b) (k:y->ai->aF->∀a,∀b,dK (dJ a b)):dK c:=by
 rcases e with ⟨g,f,d,a,b,rfl⟩;exact k g f d a b
@[elab_as_elim] theorem vd (d:aA) (e:y/\ai/\∃b:h,∃a:t,∃c:a9,d=dM b a c) (k:y->ai->∀b,∀a,∀c,dN (dM b a c)):dN d:=by
 rcases e with ⟨g,f,b,a,c,rfl⟩;exact k g f b a c
theorem Dk (f:y/\∃a:h,∃b:t,dn a b/\du a b/\dD a b) (k:y->∀a,∀b,dn a b->du a b->dD a b->ai):ai:=by
 rcases f with ⟨g,a,b,d,e,c⟩;exact k g a b d e c
@[elab_as_elim] theorem Ih (d:aA) (f:y/\∃a:h,∃c:t,∃b:a9,d=dM a c b/\dw a c b) (k:y->∀a,∀c,∀b,dw a c b->dN (dM a c b)):dN d:=by
 rcases f with ⟨g,a,c,b,rfl,e⟩;exact k g a c b e
theorem zS {b:h->Prop} (g:∃a:h,dm a/\dz a/\dF a/\dR a/\b a) (k:∀a,dm a->dz a->dF a->dR a->b a->y):y:=by
 rcases g with ⟨a,i,e,d,f,c⟩;exact k a i e d f c
theorem wW (g:∃b:h,∃a:t,∃c:a9,dw b a c/\dC b a c/\dG b a c) (k:∀b,∀a,∀c,dw b a c->dC b a c->dG b a c->y):y:=by
 rcases g with ⟨b,a,c,e,f,d⟩;exact k b a c e f d
@[elab_as_elim] theorem Ii {b:t->Prop} {d:t->Prop} {c:t->Prop} (e:h) (l:e=dp/\∃a:t,dB a/\b a/\d a/\c a) (k:∀a,dB a->b a->d a->c a->dm dp):dm e:=by
 rcases l with ⟨rfl,a,i,g,j,f⟩;exact k a i g j f
@[elab_as_elim] theorem wX {f:h->t->a9->aA->aY} {G:aY->Prop} (e:aY) (g:y/\ai/\∃b:h,∃a:t,∃c:a9,∃d:aA,e=f b a c d) (k:y->ai->∀b,∀a,∀c,∀d,G (f b a c d)):G e:=by
 rcases g with ⟨j,i,b,a,c,d,rfl⟩;exact k j i b a c d
@[elab_as_elim] theorem EK {g:h->t->a9->aA->aY->bY} {G:bY->Prop} (f:bY) (i:y/\∃a:h,∃c:t,∃b:a9,∃d:aA,∃e:aY,f=g a c b d e) (k:y->∀a,∀c,∀b,∀d,∀e,G (g a c b d e)):G f:=by
 rcases i with ⟨j,a,c,b,d,e,rfl⟩;exact k j a c b d e
@[elab_as_elim] theorem sx {f:h->t->a9->aA->aY} {G:aY->Prop} (e:aY) (i:y/\∃a:h,∃c:t,∃b:a9,∃d:aA,e=f a c b d/\dH a c b d) (k:y->∀a,∀c,∀b,∀d,dH a c b d->G (f a c b d)):G e:=by
 rcases i with ⟨j,a,c,b,d,rfl,g⟩;exact k j a c b d g
theorem mX (i:∃b:h,∃a:t,∃c:a9,dw b a c/\dC b a c/\dG b a c/\dP b a c) (k:∀b,∀a,∀c,dw b a c->dC b a c->dG b a c->dP b a c->y):y:=by
 rcases i with ⟨b,a,c,f,g,e,d⟩;exact k b a c f g e d
theorem Ae (i:∃b:h,∃a:t,∃d:a9,∃c:aA,dH b a d c/\dS b a d c/\dZ b a d c) (k:∀b,∀a,∀d,∀c,dH b a d c->dS b a d c->dZ b a d c->y):y:=by
 rcases i with ⟨b,a,d,c,g,f,e⟩;exact k b a d c g f e
variable {e7:h->t->a9->aA->aY->Prop}
theorem Af (i:∃b:h,∃a:t,∃d:a9,∃c:aA,∃e:aY,dO b a d c e/\e7 b a d c e) (k:∀b,∀a,∀d,∀c,∀e,dO b a d c e->e7 b a d c e->y):y:=by
 rcases i with ⟨b,a,d,c,e,g,f⟩;exact k b a d c e g f
@[elab_as_elim] theorem Ce {g:h->t->a9->aA->aY->bY} {G:bY->Prop} (f:bY) (j:y/\∃a:h,∃c:t,∃b:a9,∃d:aA,∃e:aY,f=g a c b d e/\dO a c b d e) (k:y->∀a,∀c,∀b,∀d,∀e,dO a c b d e->G (g a c b d e)):G f:=by
 rcases j with ⟨l,a,c,b,d,e,rfl,i⟩;exact k l a c b d e i
theorem iP (j:∃b:h,∃a:t,dn b a/\du b a/\dD b a/\dI b a/\dQ b a/\dY b a) (k:∀b,∀a,dn b a->du b a->dD b a->dI b a->dQ b a->dY b a->y):y:=by
 rcases j with ⟨b,a,f,e,i,d,c,g⟩;exact k b a f e i d c g
theorem oV (j:∃b:h,∃a:t,∃c:a9,dw b a c/\dC b a c/\dG b a c/\dP b a c/\dX b a c) (k:∀b,∀a,∀c,dw b a c->dC b a c->dG b a c->dP b a c->dX b a c->y):y:=by
 rcases j with ⟨b,a,c,f,i,e,d,g⟩;exact k b a c f i e d g
@[elab_as_elim] theorem Ag (d:aA) (i:y/\ai/\aF/\∃a:h,∃b:t,∃c:a9,dw a b c/\dC a b c/\d=dM a b c) (k:y->ai->aF->∀a,∀b,∀c,dw a b c->dC a b c->dN (dM a b c)):dN d:=by
 rcases i with ⟨l,j,f,a,b,c,e,g,rfl⟩;exact k l j f a b c e g
theorem sZ {d:h->t->a9->Prop} (m:∃b:h,∃a:t,∃c:a9,dw b a c/\dC b a c/\dG b a c/\dP b a c/\dX b a c/\d b a c) (k:∀b,∀a,∀c,dw b a c->dC b a c->dG b a c->dP b a c->dX b a c->d b a c->y):y:=by
 rcases m with ⟨b,a,c,g,l,f,e,i,j⟩;exact k b a c g l f e i j
@[elab_as_elim] theorem EL {e:h->t->a9->Prop} (d:aA) (l:∃b:h,∃a:t,∃c:a9,d=dM b a c/\dw b a c/\dC b a c/\dG b a c/\dP b a c/\dX b a c/\e b a c) (k:∀b,∀a,∀c,dw b a c->dC b a c->dG b a c->dP b a c->dX b a c->e b a c->dN (dM b a c)):dN d:=by
 rcases l with ⟨b,a,c,rfl,j,f,m,g,i,n⟩;exact k b a c j f m g i n
@[elab_as_elim] theorem tP {g:t->a9->aA->aY->Prop} {o:t->a9->aA->aY->Prop} {n:t->a9->aA->aY->Prop} {e:t->a9->aA->aY->Prop} {f:t->a9->aA->aY->Prop} {i:t->a9->aA->aY->Prop} {m:t->a9->aA->aY->Prop} {j:t->a9->aA->aY->Prop} (l:h) (u:y/\l=dp/\∃d:t,∃c:a9,∃a:aA,∃b:aY,g d c a b/\o d c a b/\n d c a b/\e d c a b/\f d c a b/\i d c a b/\m d c a b/\j d c a b) (k:y->∀d,∀c,∀a,∀b,g d c a b->o d c a b->n d c a b->e d c a b->f d c a b->i d c a b->m d c a b->j d c a b->dm dp):dm l:=by
 rcases u with ⟨A,rfl,d,c,a,b,x,r,s,w,p,z,v,q⟩;exact k A d c a b x r s w p z v q
theorem Q6 (b:y/\∃a:h,dm a) (k:y->∀a,dm a->ai):ai:=by
 rcases b with ⟨d,a,c⟩;exact k d a c
theorem S7 (b:y/\ai/\∃a:h,dm a) (k:y->ai->∀a,dm a->aF):aF:=by
 rcases b with ⟨e,c,a,d⟩;exact k e c a d
theorem S8 (b:y/\∃a:h,dm a/\dz a) (k:y->∀a,dm a->dz a->ai):ai:=by
 rcases b with ⟨e,a,d,c⟩;exact k e a d c
theorem Lr (e:y/\∃a:h,dm a/\dz a/\dF a) (k:y->∀a,dm a->dz a->dF a->ai):ai:=by
 rcases e with ⟨f,a,c,b,d⟩;exact k f a c b d
theorem Q7 (e:y/\∃a:h,∃b:t,dn a b/\du a b) (k:y->∀a,∀b,dn a b->du a b->ai):ai:=by
 rcases e with ⟨f,a,b,c,d⟩;exact k f a b c d
theorem Ls (e:∃a:h,dm a/\∃c:t,∃b:a9,dw a c b) (k:∀a,dm a->∀c,∀b,dw a c b->y):y:=by
 rcases e with ⟨a,f,c,b,d⟩;exact k a f c b d
theorem OK (f:y/\∃a:h,dm a/\dz a/\dF a/\dR a) (k:y->∀a,dm a->dz a->dF a->dR a->ai):ai:=by
 rcases f with ⟨g,a,d,c,e,b⟩;exact k g a d c e b
theorem wY (g:∃b:h,∃a:t,∃d:a9,∃c:aA,dH b a d c/\dS b a d c) (k:∀b,∀a,∀d,∀c,dH b a d c->dS b a d c->y):y:=by
 rcases g with ⟨b,a,d,c,f,e⟩;exact k b a d c f e
theorem EM (g:y/\∃a:h,∃c:t,∃b:a9,dw a c b/\dC a c b/\dG a c b) (k:y->∀a,∀c,∀b,dw a c b->dC a c b->dG a c b->ai):ai:=by
 rcases g with ⟨i,a,c,b,f,e,d⟩;exact k i a c b f e d
theorem yb {e:h->t->a9->aA->Prop} (l:∃b:h,∃a:t,∃d:a9,∃c:aA,dH b a d c/\dS b a d c/\dZ b a d c/\e b a d c) (k:∀b,∀a,∀d,∀c,dH b a d c->dS b a d c->dZ b a d c->e b a d c->y):y:=by
 rcases l with ⟨b,a,d,c,j,g,f,i⟩;exact k b a d c j g f i
theorem Ah {c:h->t->Prop} (m:∃b:h,∃a:t,dn b a/\du b a/\dD b a/\dI b a/\dQ b a/\dY b a/\c b a) (k:∀b,∀a,dn b a->du b a->dD b a->dI b a->dQ b a->dY b a->c b a->y):y:=by
 rcases m with ⟨b,a,g,f,l,e,d,i,j⟩;exact k b a g f l e d i j
theorem EN (l:∃b:h,∃a:t,dn b a/\du b a/\dD b a/\dI b a/\∃c:a9,dw b a c/\dC b a c/\dG b a c) (k:∀b,∀a,dn b a->du b a->dD b a->dI b a->∀c,dw b a c->dC b a c->dG b a c->y):y:=by
 rcases l with ⟨b,a,e,f,j,d,c,g,i,m⟩;exact k b a e f j d c g i m
theorem Dl {j:h->t->a9->aA->aY->Prop} {i:h->t->a9->aA->aY->Prop} {f:h->t->a9->aA->aY->Prop} {g:h->t->a9->aA->aY->Prop} (p:∃b:h,∃a:t,∃e:a9,∃d:aA,∃c:aY,dO b a e d c/\e7 b a e d c/\j b a e d c/\i b a e d c/\f b a e d c/\g b a e d c) (k:∀b,∀a,∀e,∀d,∀c,dO b a e d c->e7 b a e d c->j b a e d c->i b a e d c->f b a e d c->g b a e d c->y):y:=by
 rcases p with ⟨b,a,e,d,c,m,q,n,o,r,l⟩;exact k b a e d c m q n o r l
theorem Ai {m:h->t->a9->aA->aY->Prop} {l:h->t->a9->aA->aY->Prop} {f:h->t->a9->aA->aY->Prop} {g:h->t->a9->aA->aY->Prop} {i:h->t->a9->aA->aY->Prop} {j:h->t->a9->aA->aY->Prop} (r:∃b:h,∃a:t,∃e:a9,∃d:aA,∃c:aY,dO b a e d c/\e7 b a e d c/\m b a e d c/\l b a e d c/\f b a e d c/\g b a e d c/\i b a e d c/\j b a e d c) (k:∀b,∀a,∀e,∀d,∀c,dO b a e d c->e7 b a e d c->m b a e d c->l b a e d c->f b a e d c->g b a e d c->i b a e d c->j b a e d c->y):y:=by
 rcases r with ⟨b,a,e,d,c,o,u,p,q,w,n,v,s⟩;exact k b a e d c o u p q w n v s
@[elab_as_elim] theorem WJ (b:t) (c:∃a:h,dA a=b) (k:∀a,dB (dA a)):dB b:=by
 rcases c with ⟨a,rfl⟩;exact k a
variable {a d o:Nat}
theorem n1 (h:a=d) (l:d<=o):a<=o:=h▸l
theorem S9 (h:a=d) (l:d<o):a<o:=h▸l
theorem EO (l:a<d) (h:o=d):a<o:=h▸l
theorem Vb (l:a<=d) (h:o=d):a<=o:=h▸l
theorem VY (l:a<=d) (h:d=o):a<=o:=h▸l
theorem Of (h:d+1<=a):a=a -1+1:=(pd (a_ (df 1 d) h)).symm
theorem UL (h:d+2<=a):a=a -2+2:=(pd (a_ (df 2 d) h)).symm
theorem Qo (h:d+o+1<=a+1):o<=a:=a_ (df o d) (gZ h)
theorem WK (h:d+o+2<=a+2):o<=a:=a_ (df o d) (gZ (gZ h))
theorem ul (k:Nat) (h:a+d<o) (l:sS k d=true):a+k<o:=c_ (d7 (ja l) a) h
variable {I ak aI:Nat}
theorem um (h:a+d<o) (b:I<=aI) (l:sS aI d=true):a+min I ak<o:=c_ (d7 (a_ (g8 _ _) (a_ b (ja l))) a) h
theorem Vc (h:a+d<o) (b:I<=aI) (l:sS (aI+1) d=true):a+1+min I ak<o:=c_ (n1 (fJ a 1 _) (d7 (a_ (n1 (eY 1 _) (fh (a_ (g8 I ak) b))) (ja l)) a)) h
theorem VZ (h:a+d<o) (b:ak<=aI) (l:sS (aI+1) d=true):a+1+min I ak<o:=Nat.min_comm I ak▸Vc h b l
theorem sw (h:a+(d+1)<=I) (t:o<=a+1):o+d<=I:=a_ (gA t d) (n1 (g0 a 1 d) h)
theorem bk (c:d<=a) (b:a -d<=o) (h:o<a):o - (a -d)<d:=Nat.sub_lt_left_of_lt_add b ((pd c).symm▸h)
theorem WL (b:a<=o) (c:o<=a+d) (e:I=o):a+(d - (a+d -o))=I:=by
 obtain ⟨x,rfl⟩:=pC b
 obtain ⟨y,rfl⟩:=pC (Nat.le_of_add_le_add_left c)
 rw [Nat.add_sub_add_left,ib,Nat.add_sub_cancel,e]
theorem WM (e:d<=I+o) (c:o<=d) (b:¬a<I):a - (d -o)=I+o -d+(a -I):=by
 obtain ⟨x,rfl⟩:=pC c
 obtain ⟨y,rfl⟩:=pC (mN b)
 rw [ib,ib,eY o x,Nat.add_sub_add_right]
 exact OB (Nat.le_of_add_le_add_right (eY o x▸e))
theorem rm (h:a+I*(d+1)<=o) (l:sS ak I=true):a+ak+I*d<=o:=n1 (g0 a ak _) (a_ (d7 (ja l) _) (n1 (fJ a (I*d) I) h))
theorem V0 (u:d=a+aI) (h:a+ak*(o+1)<=I) (l:sS aI ak=true):d+ak*o<=I:=u▸rm h l
theorem WN (e:a+(d - (a+d -o))=o) (c:o=I) (b:ak=a) (f:aI=d):I<=ak+aI:=c▸b▸f▸n1 e.symm (d7 (jQ _ _) a)
theorem u0 (h:a+d+o<I):a<I:=c_ (a_ (eh a d) (eh _ o)) h
theorem u1 (h:a+10*(d+1)+o<I):a+1+10*d+o<I:=
 c_ (gA (n1 (fJ a 1 _) (d7 (n1 (eY 1 _) (d7 (by decide:1<=10) _)) a)) o) h
theorem u2 (h:a+10*(d+1)+o<I):a+1+d<I:=c_ (a_ (n1 (fJ a 1 d) (d7 (n1 (eY 1 d) (nj _ (by decide))) a)) (eh _ o)) h
theorem u3 (h:a+10*d+o<I):a+d<I:=c_ (a_ (d7 (nj d (by decide)) a) (eh _ o)) h
theorem s5 (h:a+o*d<=I) (b:2<=d) (l:sS ak (o*2)=true):a+ak<=I:=a_ (d7 (a_ (ja l) (gR o b)) a) h
theorem r3 (h:a+d<=9000):a+800<9900:=c_ (gA (a_ (eh a d) h) 800) (by decide)
theorem r4 (h:a+d<=900):a<1000:=c_ (a_ (eh a d) h) (by decide)
theorem WO (h:a=d+2):a+(o+2*I)=d+o+2*(I+1):=by rw [h,SR,fJ,eY 2,fJ,fJ]
theorem WQ (h:0<a):1+d<=d+2*a:=n1 (eY 1 d) (d7 (a_ h (nj a (by decide))) d)
variable {p aB bZ:Int}
theorem WR (l:p<=aB) (h:aB=bZ):p<=bZ:=h▸l
theorem Dm (h:1<=p/\p<=5):p=1\/p=2\/p=3\/p=4\/p=5:=by
 obtain ⟨n,rfl⟩:=tX (jD (by decide) h.1)
 have a:n<=5:=gS.mp h.2
 rcases n with _ |_ |_ |_ |_ |_ |n
 .exact absurd h.1 (by decide)
 .exact .inl rfl
 .exact .inr (.inl rfl)
 .exact .inr (.inr (.inl rfl))
 .exact .inr (.inr (.inr (.inl rfl)))
 .exact .inr (.inr (.inr (.inr rfl)))
 .exact absurd (a_ (df 6 n) a) (by decide)
theorem WS (b:a<d) (h:min (a+1) d=0):False:=absurd ((j3 b).symm.trans h) (tV a)
theorem JA (h:(-1:Int)=a):False:=by injection h
theorem V1 (h:a<2) (c:d<=o) (b:o<a):d=o:=by
 have e:=iZ.mp (ei b (eX h))
 clear h b;subst e
 exact Nat.le_zero.mp c
theorem JB (h:a<=100000):(a:Int)<2 ^ 63:=x_ (gS.mpr h) (by decide)
theorem WT (h:a<=100000):¬(a:Int)>=2 ^ 63:=C9.mpr (JB h)
theorem Q8 (h:p.natAbs<=3000000):-2 ^ 63<=p/\p<2 ^ 63:=
 have c:=jD Sh (gS.mpr h)
 have b:=jD (Sh (a:=-p)) (Int.natAbs_neg p▸gS.mpr h)
 ⟨jD (by decide) (BD p▸Int.neg_le_neg b),x_ c (by decide)⟩
theorem S_ (h:p.toNat<a) (b:a<=100000):p<2 ^ 63:=x_ (Int.self_le_toNat p) (JB (eA (ei h b)))
theorem V2 (a:p.natAbs<=1000000) (b:aB.natAbs<=1000000):(aB -p -1+1).natAbs<=3000000:=n1 (congrArg Ld (nq _ _)) (a_ (Od _ _) (a_ (fP b a) (by decide)))
theorem V3 (h:p<aB):0<=aB -p -1+1:=WR (v5 (zB h)) (nq _ _).symm
theorem V4 (h:¬p<aB):qi 0=(aB -p).toNat:=(Oc.mpr (Int.sub_nonpos_of_le (nr.mp h))).symm
theorem V5:p -aB=p+ -1*aB:=congrArg (p+·) (Int.neg_one_mul aB).symm
theorem WU:p+(aB*bZ+1*bZ)=p+bZ+aB*bZ:=by rw [UK,G4 (aB*bZ),Int.add_assoc]
theorem WV:((a:Int)+d*1).toNat=a+d:=congrArg (λz=>((a:Int)+z).toNat) (Int.mul_one (d:Int))
theorem tn (h:p.toNat=a+1):(p -1).toNat=a:=by
 induction p using Int.casesOn with
 |ofNat n=>cases h;exact congrArg qi (rW (a:Int) 1)
 |negSucc n=>injection h
theorem V6 (d:0<=p) (b:p<=aB) (c:aB.toNat<=a):max 0 (min p a)=p:=(congrArg (max 0) (Qj (jD b (Int.toNat_le.mp c)))).trans (qj d)
theorem Vd (h:0<=p):min p a=((min p.toNat a:Nat):Int):=by
 obtain ⟨k,rfl⟩:=tX h
 exact (ui k a).elim (λh=>(Qj (gS.mpr h)).trans (congrArg OE (j3 h).symm)) λh=>(Int.min_eq_right (gS.mpr h)).trans (congrArg OE (tW h).symm)
theorem V7 (h:0<=p):max 0 (min p a)=((min p.toNat a:Nat):Int):=by rw [Vd h];exact qj (gE _)
theorem V8 (b:a<=d) (c:d<=o) (e:o+I<=ak):min a o+I+(o -d)<=ak:=a_ (gA (gA (a_ (g8 _ _) b) I) _) (n1 ((g0 d I _).trans (congrArg (·+I) (rt c))) e)
theorem WW (b:a<=d) (c:d<=o) (e:o+I<=ak):min a o -0+I+(min o o -d)<=ak+1:=by rw [GX];exact fZ (V8 b c e)
theorem ad (h:a+d<=ak) (b:o=a) (c:I=d):o+I<=ak:=b▸c▸h
theorem UM (h:o=a+(d+1)):a<o:=h▸ei (fH a) (d7 (df 1 d) a)
theorem Ve (h:o -I=a+(d+1)):I+a<o:=eY I a▸Nat.add_lt_of_lt_sub (UM h)
theorem WX (h:0<o) (b:a -d=I+1):a - (d+o)<=I:=n1 (QY a d o) (b▸j8 (d7 h I))
theorem WY (b:o<=a -d) (c:0<o):d+o<=a:=eY o d▸Nat.add_le_of_le_sub (eA (N4 (ei c b))) b
theorem WZ (c:o<=a -d) (b:0<o):a - (d+o)<a -d:=S9 (QY a d o) (kf (ei b c) b)
theorem Vf (b:a<4):1+a<=4:=n1 (eY 1 a) b
theorem V9 (b:a+100<100000) (c:d<5) (e:o<10):a+1+7*d+o<100000:=c_ (a_ (fP (d7 (gR 7 (eX c)) (a+1)) (eX e)) (d7 (by decide:38<=100) a)) b
theorem V' (b:a+100<100000) (e:d<5) (c:o<4):a+1+7*d+1+(1+o)<100000:=
 c_ (fP (gA (d7 (gR 7 (eX e)) (a+1)) 1) (d7 (eX c) 1)) (c_ (d7 (by decide:34<=100) a) b)
theorem W0 (b:d<4):a+1+(1+d)<=a+6:=d7 (d7 (d7 (eX b) 1) 1:1+(1+d)<=1+(1+3)) a|>n1 (fJ a 1 _)|>λh=>fZ h
theorem W3 (b:d<4):a+1+(1+d)+1<=a+6:=fh (d7 (Vf b) (a+1))
theorem W4 (b:d<6):a+1+7*d<=a+36:=d7 (gR 7 (eX b)) (a+1)
theorem y3 (b:a+d<o) (c:I<d):a+(1+I)<o:=c_ (d7 (n1 (eY 1 I) c) a) b
theorem y5:a+d+1=a+(1+d):=congrArg (a+·) (eY d 1)
theorem W5:((a:Int) -d -1+1).toNat=a -d:=(congrArg qi (nq _ 1)).trans (EG a d)
theorem W6 (h:¬(a:Int)>d):qi 0=a -d:=(vA (gS.mp (nr.mp h))).symm
theorem cs (h:d<a):(a:Int) -1 -d=((a - (d+1):Nat):Int):=(Int.sub_sub ..).trans ((congrArg ((a:Int) - ·) (G4 1 d)).trans (Sg h).symm)
theorem Vg (h:d<a):((a:Int) -1+ -1*d).toNat=a -1 -d:=(congrArg qi (V5.symm.trans (cs h))).trans ((congrArg (a - ·) (eY d 1)).trans (UD a 1 d).symm)
theorem z0 (h:¬(a:Int) -1> -1):a=0:=by
 rcases a with _ |a
 .rfl
 .exact absurd (Le (by decide) (jD (gE a) (S3 (rW (a:Int) 1).symm))) h
theorem ka (b:¬0<=p):p+a=(a:Int) - (p.natAbs:Int):=by
 rw [C8 (zB (C9.mp b)),Jx,G4]
theorem kb (b:¬0<=p):a -p.natAbs=(p+a).toNat:=(EG a p.natAbs).symm.trans (congrArg qi (ka b).symm)
theorem kc (b:¬0<=p) (c:p.natAbs<=a):0<=p+a/\p+a<a:=⟨ka b▸v5 (gS.mpr c),Le (Int.add_lt_add_right (C9.mp b) (a:Int)) (S3 (Int.zero_add _))⟩
theorem kd (c:¬0<=p) (b:p.natAbs<=a):-(a:Int)<=p:=Int.le_of_sub_nonneg ((Jx p a).symm▸(kc c b).1)
theorem Ta (b:a<5):1<=1+(a:Int)/\1+(a:Int)<=5:=⟨Int.le_add_of_nonneg_right (gE a),Int.add_le_add_left (gS.mpr (eX b)) 1⟩
theorem W7:((a:Int) -1 - -1).toNat=a:=congrArg qi ((Jx _ _).trans (nq (a:Int) 1))
theorem Sj (h:a<=1000):((a:Int) -1).natAbs<=1000000:=a_ (Od _ _) (a_ (gA h 1) (by decide))
theorem W8 (b:a+2<=d):¬(d:Int) -a<2:=nr.mpr (Int.le_sub_left_of_add_le (gS.mpr b))
theorem W9 (h:a<d) (b:d<=o) (e:min (d -a) (o -a)=0):False:=oz (Nat.lt_min.mpr ⟨iX h,iX (ei h b)⟩) e
theorem Vh:((1+a:Nat):Int) -1=a:=(congrArg (λz:Nat=>(z:Int) -1) (eY 1 a)).trans (rW (a:Int) 1)
theorem W' (b:¬d<a) (c:¬d=a):d=a+(d -a -1+1):=by
 have h:=ni (iY.mp b) (nA c)
 rw [pd (iX h),rt (eA h)]
theorem W_:a+d+1+o=a+(o+1)+d:=(fJ (a+d) 1 o).trans ((congrArg (a+d+·) (eY 1 o)).trans (g0 a d (o+1)))
theorem Xa (h:a+d<o):min a o+(o - (a+d+1)+1)=o -d:=by
 obtain ⟨x,rfl⟩:=Nat.exists_eq_add_of_lt h
 rw [j3 (a_ (eh a d) (eA h)),g0 _ x 1,ib,fJ a d 1,Nat.add_left_comm a d,fJ d,ib,eY x 1,fJ a 1 x]
theorem Vi (h:((a+d:Nat):Int)=((a+0:Nat):Int)):d=0:=Nat.add_left_cancel (rA h)
theorem Vj (b:¬d<a) (c:¬d=a):d+o≠a:=oz (ei (ni (iY.mp b) (nA c)) (eh d o))
theorem Xb (b:a<o) (h:d<=o - (a+1)):a+d<o:=n1 (Nat.succ_add a d).symm (H_ b h)
theorem Xc:((a+d+1:Nat):Int) -d=((a+1:Nat):Int):=(congrArg (λz:Nat=>(z:Int) -d) (g0 a d 1)).trans (rW ((a+1:Nat):Int) d)
theorem Vk (e:d=a+(o -I)) (h:a<d):I<o:=N4 (Nat.lt_of_add_lt_add_left (n:=a) (e▸h))
theorem Vl (e:d=a+(o -I)) (h:¬a<d):o -I=0:=Nat.eq_zero_of_not_pos λq=>h (e▸gk q)
theorem Xd (c:a<10000) (b:d<8):a+1+d<100000:=gG (Nat.add_lt_add (qD c 1) b) (by decide)
theorem Xe (b:d<8):a+1+d<=a+9:=a_ (d7 (eA b) (a+1)) (eJ _)
theorem Xf (b:d<=9*o) (c:a<=4):2*a+1+d<=9*(o+1):=a_ (fP (gA (gR 2 c) 1) b) (gv (eY _ _))
variable {bc:Nat}
theorem Vm (f:a<=I) (e:d+(o+1)<=aI) (c:aI<=ak) (b:bc+(I+(1+ak))<1001):a+d<100000:=
 c_ (fP f (a_ (a_ (eh d (o+1)) e) (a_ c (df ak 1)))) (c_ (df _ bc) (gG b (by decide)))
theorem Xg (c:a+1<=1+o) (e:o<=I) (f:I<1000) (b:d<=1000):a+d<100000:=
 c_ (fP (a_ (gZ (VY c (eY 1 o))) e) b) (gG (qD f 1000) (by decide))
theorem Lu [Decidable y] {k:h} (a:(if y then some dp else none)=some k):y/\dp=k:=
 if q:y then ⟨q,d5 ((if_pos q).symm.trans a)⟩ else absurd ((if_neg q).symm.trans a) (λx=>noConfusion_of_Nat N2 x)
theorem V_ [Decidable y] {k:h} (a:(if y then none else some dp)=some k):¬y/\dp=k:=
 if q:y then absurd ((if_pos q).symm.trans a) (λx=>noConfusion_of_Nat N2 x) else ⟨q,d5 ((if_neg q).symm.trans a)⟩
local macro_rules
|`(tactic|rw [$rs,*] $[at $h:ident]?)=>do
 let ts ←rs.getElems.mapM fun r=>do
  let t:Lean.Term:=⟨r.raw[1]⟩
  let e:=r.raw[0].isNone
  match h with
  |none=>
   let f:=Lean.mkIdent (if e then `Mine.WH else `Mine.WI)
   `(tactic|first |refine $f:ident ($t ..) ?_ |rewrite [$r])
  |some h=>
   let t ←if e then `($t ..) else `(Eq.symm ($t ..))
   `(tactic|first |replace $h :=$t▸$h |rewrite [$r] at $h:ident)
 `(tactic|($[$ts]*;try (with_reducible rfl)))
variable {l af:AV} {aS:List (Nat×AV)}
section
set_option genInjectivity true in
inductive AV where
 |none |bool (b:Bool) |int (i:Int) |str (s:List Nat)
 |tup (xs:List AV) |ref (a:Nat) |pU (lo hi st:Int) |fn (n:Nat) |cls (n:Nat) |bi (n:Nat) |BM (xs:List Int)
 deriving Inhabited
set_option genInjectivity true in
inductive AO where
 |list (xs:List AV)
 |dict (kvs:List (AV×AV))
 |inst (c:Nat) (dx:Nat) (fs:List (Nat×AV))
noncomputable abbrev AS:=Nat->Option AO
noncomputable abbrev MM:=List (Option AV)
noncomputable def AS.set (st:AS) (a:Nat) (o:AO):AS:=λb=>if b=a then some o else st b
noncomputable def AS.le (st st':AS):Prop:=∀a o,st a=some o->st' a=some o
noncomputable def AS.free (st:AS) (a:Nat):Prop:=st a=none/\∀b c fs,st b≠some (.inst c a fs)
inductive Sk where |add |sub |mul |mod |fdiv |band
inductive Og where |eq |ne |lt |le |gt |ge |Tb |Cf |Sl |Tc
mutual
inductive CE where
 |var (i:Nat)
 |cst (v:AV)
 |tup (es:wZ)
 |lst (es:wZ)
 |bin (o:Sk) (a b:CE)
 |neg (a:CE)
 |not (a:CE)
 |and (a b:CE)
 |or (a b:CE)
 |cmp (a:CE) (o:Og) (b:CE)
 |EP (a:CE) (o:Og) (b:CE) (p:Og) (c:CE)
 |ite (c a b:CE)
 |attr (e:CE) (x:Nat)
 |sub (e i:CE)
 |tY (e lo hi:CE)
 |rev (e:CE)
 |call (f:CE) (es:wZ)
 |fM (o:CE) (x:Nat) (es:wZ)
 |comp (caps:List (Option Nat)) (elt:CE) (tgt:List Nat) (iter:CE) (conds:wZ) (rest:Gens)
 |dict (es:wZ)
 |ER (e:CE) (body:CE)
inductive wZ where
 |nil
 |cons (e:CE) (r:wZ)
inductive Gens where
 |nil
 |cons (tgt:List Nat) (iter:CE) (conds:wZ) (rest:Gens)
end
mutual
inductive CS where
 |asg (i:Nat) (e:CE)
 |s_ (is:List Nat) (e:CE)
 |iA (o:CE) (x:Nat) (e:CE)
 |ES (o:CE) (x:Nat) (o':CE) (x':Nat) (e:CE)
 |tZ (o i e:CE)
 |Lv (o lo hi e:CE)
 |ex (e:CE)
 |ret (e:CE)
 |iff (c:CE) (a b:w0)
 |ET (c:CE) (b:w0)
 |kg (tgt:List Nat) (e:CE) (b:w0)
 |brk
inductive w0 where
 |nil
 |cons (s:CS) (r:w0)
end
inductive Fl where |next |brk |ret (v:AV)
inductive jk:Nat->AV->Prop where
 |int (n:Nat) (i:Int):jk n (.int i)
 |str (n:Nat) (s:List Nat):(∀c∈s,c<128)->jk n (.str s)
 |tup (n:Nat) (xs:List AV):(∀x∈xs,jk n x)->jk (n+1) (.tup xs)
noncomputable abbrev Plain (v:AV):Prop:=jk 6 v
inductive oO:Nat->AV->Prop where
 |int (n:Nat) (i:Int):oO n (.int i)
 |tup (n:Nat) (xs:List AV):(∀x∈xs,oO n x)->oO (n+1) (.tup xs)
noncomputable def Lw (k:AV):Prop:=(∃xs,k= .tup xs)/\oO 4 k
noncomputable def IntKeys (kvs:List (AV×AV)):Prop:=∀p∈kvs,∃i,p.1= .int i
noncomputable def ta (k:AV) (kvs:List (AV×AV)):Prop:=((∃i,k= .int i)/\IntKeys kvs)\/(Lw k/\∀p∈kvs,Lw p.1)
inductive nN (st:AS):AV->Bool->Prop where
 |none:nN st .none false
 |bool (b:Bool):nN st (.bool b) b
 |int (i:Int):nN st (.int i) (decide (i≠0))
 |tup (xs:List AV):nN st (.tup xs) (!xs.isEmpty)
 |list {a:Nat} {xs:List AV} (h:st a=some (.list xs)):nN st (.ref a) (!xs.isEmpty)
inductive Eqv (st:AS):AV->AV->Bool->Prop where
 |bool (a b:Bool):Eqv st (.bool a) (.bool b) (a==b)
 |plain {v w:AV} (hv:Plain v) (hw:Plain w) (b:Bool) (h:b=true↔v=w):Eqv st v w b
 |list {a a':Nat} {xs ys:List AV} (h:st a=some (.list xs)) (h':st a'=some (.list ys)) (hx:∀x∈xs,Plain x) (hy:∀x∈ys,Plain x)
  (b:Bool) (hb:b=true↔xs=ys):Eqv st (.ref a) (.ref a') b
 |Ij {a a':Nat} {kvs:List (AV×AV)} (h:st a=some (.dict kvs)) (hi:IntKeys kvs) (h':st a'=some (.dict [])):Eqv st (.ref a) (.ref a') kvs.isEmpty
 |Ik {a a':Nat} {kvs lvs:List (AV×AV)} (h:st a=some (.dict kvs)) (h':st a'=some (.dict lvs))
  (hk:∀kv∈kvs,∃i r xs,kv=(.int i,.ref r)/\st r=some (.list xs)/\(∀x∈xs,Plain x))
  (hl:∀kv∈lvs,∃i r xs,kv=(.int i,.ref r)/\st r=some (.list xs)/\(∀x∈xs,Plain x))
  (hlen:kvs.length=lvs.length)
  (hall:∀i r xs,(AV.int i,AV.ref r)∈kvs->st r=some (.list xs)->∃r',(AV.int i,AV.ref r')∈lvs/\st r'=some (.list xs)):Eqv st (.ref a) (.ref a') true
inductive Cg (st:AS):AV->AV->Bool->Prop where
 |list {v:AV} {a:Nat} {xs:List AV} (hv:Plain v) (h:st a=some (.list xs)) (hx:∀x∈xs,Plain x) (b:Bool) (hb:b=true↔v∈xs):Cg st v (.ref a) b
 |tup {v:AV} {xs:List AV} (hv:Plain v) (hx:∀x∈xs,Plain x) (b:Bool) (hb:b=true↔v∈xs):Cg st v (.tup xs) b
 |dict {v:AV} {a:Nat} {kvs:List (AV×AV)} (h:st a=some (.dict kvs)) (hv:ta v kvs) (b:Bool) (hb:b=true↔v∈kvs.map (·.1)):Cg st v (.ref a) b
noncomputable def Vn (o:Og) (i j:Int):Option Bool:=match o with
 | .lt=>some (decide (i<j))
 | .le=>some (decide (i<=j))
 | .gt=>some (decide (i>j))
 | .ge=>some (decide (i>=j))
 |_=>none
inductive pW (st:AS) (Q:Bool->Prop):Og->AV->AV->Prop where
 |eq {v w:AV} {b:Bool} (h:Eqv st v w b) (q:Q b):pW st Q .eq v w
 |ne {v w:AV} {b:Bool} (h:Eqv st v w b) (q:Q (!b)):pW st Q .ne v w
 |Tb {v w:AV} {b:Bool} (h:Cg st v w b) (q:Q b):pW st Q .Tb v w
 |Cf {v w:AV} {b:Bool} (h:Cg st v w b) (q:Q (!b)):pW st Q .Cf v w
 |Vo (q:Q true):pW st Q .Sl .none .none
 |Xh {v:AV} (h:v≠.none) (h':∀n,v≠.bi n) (q:Q false):pW st Q .Sl v .none
 |Td (q:Q false):pW st Q .Tc .none .none
 |Te {v:AV} (h:v≠.none) (h':∀n,v≠.bi n) (q:Q true):pW st Q .Tc v .none
 |ord {o:Og} {i j:Int} {b:Bool} (h:Vn o i j=some b) (q:Q b):pW st Q o (.int i) (.int j)
noncomputable def binI (o:Sk) (i j:Int):Option Int:=match o with
 | .add=>some (i+j)
 | .sub=>some (i -j)
 | .mul=>if i.natAbs<2 ^ 60\/j.natAbs<2 ^ 60 then some (i*j) else none
 | .mod=>if j=0 then none else some (i.fmod j)
 | .fdiv=>if j=0\/1000000<=j.natAbs then none else some (i.fdiv j)
 | .band=>if 0<=i/\0<=j then some (OE (i.toNat&&& j.toNat)) else none
noncomputable def fF:Nat:=100000
inductive Aj (st:AS) (Q:AV->AS->Prop):Sk->AV->AV->Prop where
 |int {o:Sk} {i j k:Int} (hb:binI o i j=some k) (h:Q (.int k) st):Aj st Q o (.int i) (.int j)
 |cat {xs ys:List AV} (hl:xs.length+ys.length<=fF) (h:Q (.tup (xs++ys)) st):Aj st Q .add (.tup xs) (.tup ys)
 |app {a b:Nat} {xs ys:List AV} (ha:st a=some (.list xs)) (hb:st b=some (.list ys)) (hl:xs.length+ys.length<=fF) (h:∀c,st.free c->Q (.ref c) (st.set c (.list (xs++ys)))):Aj st Q .add (.ref a) (.ref b)
 |rep {a:Nat} {n:Int} {xs:List AV} (ha:st a=some (.list xs)) (hb:n.natAbs<=fF) (hc:xs.length*n.toNat<=fF) (h:∀c,st.free c->Q (.ref c) (st.set c (.list (gm n.toNat xs).flatten))):Aj st Q .mul (.ref a) (.int n)
noncomputable def itemAt (xs:List AV) (i:Int):Option AV:=if 0<=i then xs[i.toNat]? else if i.natAbs<=xs.length then xs[xs.length -i.natAbs]? else none
inductive zC (st:AS) (Q:AV->AS->Prop):AV->AV->Prop where
 |tup {xs:List AV} {k:Int} {x:AV} (h:itemAt xs k=some x) (q:Q x st):zC st Q (.tup xs) (.int k)
 |list {a:Nat} {xs:List AV} {k:Int} {x:AV} (hs:st a=some (.list xs)) (h:itemAt xs k=some x) (q:Q x st):zC st Q (.ref a) (.int k)
 |dict {a:Nat} {kvs:List (AV×AV)} {i x:AV} (hs:st a=some (.dict kvs)) (hk:ta i kvs) (hx:(i,x)∈kvs) (q:Q x st):zC st Q (.ref a) i
noncomputable def cut (xs:List AV) (lo hi:AV):Option (List AV):=match lo,hi with
 | .none,.none=>some xs
 | .none,.int h=>if 0<=h then some (xs.take h.toNat) else none
 | .int l,.none=>if 0<=l then some (xs.drop l.toNat) else none
 | .int l,.int h=>if 0<=l/\0<=h then some ((xs.take h.toNat).drop l.toNat) else none
 |_,_=>none
inductive G8 (st:AS) (Q:AV->AS->Prop):AV->AV->AV->Prop where
 |tup {xs ys:List AV} {l h:AV} (hc:cut xs l h=some ys) (q:Q (.tup ys) st):G8 st Q (.tup xs) l h
 |list {a:Nat} {xs ys:List AV} {l h:AV} (hs:st a=some (.list xs)) (hc:cut xs l h=some ys) (q:∀c,st.free c->Q (.ref c) (st.set c (.list ys))):G8 st Q (.ref a) l h
 |BM {xs:List Int} {ys:List AV} {l h:AV} (hc:cut (xs.map .int) l h=some ys) (q:∀c,st.free c->Q (.ref c) (st.set c (.list ys))):G8 st Q (.BM xs) l h
inductive OL (st:AS) (Q:AV->AS->Prop):AV->Prop where
 |mk {a:Nat} {xs:List AV} (hs:st a=some (.list xs)) (q:∀c,st.free c->Q (.ref c) (st.set c (.list xs.reverse))):OL st Q (.ref a)
inductive It where
 |list (a:Nat) (xs:List AV)
 |tup
 |dict (a:Nat) (ks:List AV)
 |pU
noncomputable def It.ok (it:It) (st:AS):Prop:=match it with
 | .list a xs=>st a=some (.list xs)
 | .dict a ks=>∃kvs,st a=some (.dict kvs)/\kvs.map (·.1)=ks
 |_=>True
noncomputable def w' (lo hi st:Int):Option (List AV):=
 if st=1 then some ((eQ (hi -lo).toNat).map λ(k:Nat)=>.int (lo+k))
 else if st= -1 then some ((eQ (lo -hi).toNat).map λ(k:Nat)=>.int (lo -k))
 else none
inductive oi (st:AS) (Q:It->List AV->Prop):AV->Prop where
 |tup {xs:List AV} (q:Q .tup xs):oi st Q (.tup xs)
 |pU {lo hi s:Int} {xs:List AV} (h:w' lo hi s=some xs) (q:Q .pU xs):oi st Q (.pU lo hi s)
 |list {a:Nat} {xs:List AV} (hs:st a=some (.list xs)) (q:Q (.list a xs) xs):oi st Q (.ref a)
 |dict {a:Nat} {kvs:List (AV×AV)} (hs:st a=some (.dict kvs)) (hi:IntKeys kvs) (q:Q (.dict a (kvs.map (·.1))) (kvs.map (·.1))):oi st Q (.ref a)
noncomputable def jN (tgt:List Nat) (x:AV) (m:MM):Option MM:=match tgt with
 |[i]=>some (m.set i (some x))
 |is=>match x with
  | .tup xs=>if xs.length=is.length then some ((is.zip xs).foldl (λm p=>m.set p.1 (some p.2)) m) else none
  |_=>none
noncomputable def Ci:List (Int×AV)->List AV
 |[]=>[]
 |(k,v)::r=>.int k::v::Ci r
noncomputable def Oh (tgt:List Nat) (m:MM):MM:=tgt.foldl (λm i=>m.set i none) m
inductive Lt:AV->AV->Prop where
 |int {i j:Int} (h:i<j):Lt (.int i) (.int j)
 |tup (p:List AV) (x y:AV) (r s:List AV) (h:Lt x y):Lt (.tup (p++x::r)) (.tup (p++y::s))
 |len (p:List AV) (y:AV) (s:List AV):Lt (.tup p) (.tup (p++y::s))
noncomputable def gW (v w:AV):Prop:=Lt v w\/v=w\/Lt w v
noncomputable def qX (xs:List AV):Prop:=(∀x∈xs,∃i,x= .int i)\/(∀x∈xs,oO 4 x/\∃y ys,x= .tup (y::ys))
noncomputable def iy (fs:List (Nat×AV)) (x:Nat) (v:AV):List (Nat×AV):=match fs with
 |[]=>[(x,v)]
 |(y,u)::r=>if y=x then (y,v)::r else (y,u)::iy r x v
theorem vJ:iy ((a,l)::aS) d af=if a=d then (a,af)::aS else (a,l)::iy aS d af:=rfl
open Classical in
noncomputable def dictPut (kvs:List (AV×AV)) (k v:AV):List (AV×AV):=
 if k∈kvs.map (·.1) then kvs.map (λp=>if p.1=k then (k,v) else p) else kvs++[(k,v)]
inductive ph (st:AS) (Q:List AV->Prop):AV->Prop where
 |tup {xs:List AV} (q:Q xs):ph st Q (.tup xs)
 |list {a:Nat} {xs:List AV} (hs:st a=some (.list xs)) (q:Q xs):ph st Q (.ref a)
 |dict {a:Nat} {kvs:List (AV×AV)} (hs:st a=some (.dict kvs)) (hi:IntKeys kvs) (q:Q (kvs.map (·.1))):ph st Q (.ref a)
inductive Cj (st:AS) (Q:List AV->Prop):AV->Prop where
 |mk {a:Nat} {xs:List AV} (hs:st a=some (.list xs)) (q:Q xs):Cj st Q (.ref a)
inductive One (Q:AV->Prop):List AV->Prop where
 |mk {v:AV} (q:Q v):One Q [v]
inductive Vp (Q:AV->AV->Prop):List AV->Prop where
 |mk {v w:AV} (q:Q v w):Vp Q [v,w]
inductive G9 (Q:Int->Prop):AV->Prop where
 |mk {i:Int} (q:Q i):G9 Q (.int i)
inductive OM (st:AS) (Q:List AV->Prop):AV->Prop where
 |tup {xs:List AV} (q:Q xs):OM st Q (.tup xs)
 |list {a:Nat} {xs:List AV} (hs:st a=some (.list xs)) (q:Q xs):OM st Q (.ref a)
noncomputable def Tf (args:List AV) (Q:List Int->Prop):Prop:=∃is:List Int,args=is.map .int/\Q is
inductive JC (Q:Int->Int->Int->Prop):List Int->Prop where
 |one {n:Int} (q:Q 0 n 1):JC Q [n]
 |two {a b:Int} (q:Q a b 1):JC Q [a,b]
 |down {a b:Int} (q:Q a b (-1)):JC Q [a,b,-1]
noncomputable def Il (n:Nat) (args:List AV) (st:AS) (Q:AV->AS->Prop):Prop:=match n with
 |0=>One (ph st λxs=>xs.length<=fF->Q (.int xs.length) st) args
 |1=>One (ph st λxs=>xs.length<6/\qX xs/\(xs.Pairwise λa b=>gW a b)/\
  ∃ys,ys.Perm xs/\(ys.Pairwise λa b=>Lt a b\/a=b)/\∀c,st.free c->Q (.ref c) (st.set c (.list ys))) args
 |2=>One (Cj st λxs=>∃m,(∀x∈xs,∃i,x= .int i/\m<=i)/\AV.int m∈xs/\Q (.int m) st) args
 |3=>Vp (λv w=>G9 (λi=>G9 (λj=>Q (.int (max i j)) st) w) v) args
 |4=>Tf args (JC λa b s=>a.natAbs<=1000000/\b.natAbs<=1000000/\Q (.pU a b s) st)
 |5=>One (Cj st λxs=>Q (.tup xs) st) args
 |6=>One (Cj st λps=>∃kvs:List (AV×AV),ps=kvs.map (λp=>.tup [p.1,p.2])/\(∀p∈kvs,∃i,p.1= .int i)/\
  ∀c,st.free c->Q (.ref c) (st.set c (.dict (kvs.foldl (λd p=>dictPut d p.1 p.2) [])))) args
 |7=>One (Cj st λxs=>∃bs:List Bool,xs=bs.map .bool/\Q (.bool (bs.any id)) st) args
 |8=>One (G9 λi=>Q (.int i.natAbs) st) args
 |9=>One (G9 λi=>Q (.int i) st) args
 |10=>One (OM st λxs=>∀c,st.free c->Q (.ref c) (st.set c (.list xs))) args
 |_=>False
inductive y4 (a:Nat) (xs:List AV) (st:AS) (Q:AV->AS->Prop):Nat->List AV->Prop where
 |app {v:AV} (hl:xs.length<fF) (q:Q .none (st.set a (.list (xs++[v])))):y4 a xs st Q 0 [v]
 |pop {v:AV} (hv:xs.getLast? =some v) (q:Q v (st.set a (.list xs.dropLast))):y4 a xs st Q 3 []
inductive y6 (a:Nat) (kvs:List (AV×AV)) (st:AS) (Q:AV->AS->Prop):Nat->List AV->Prop where
 |Vq {i:Int} (hi:IntKeys kvs) (q:(∃v,(AV.int i,v)∈kvs/\Q v st)\/(AV.int i∉kvs.map (·.1)/\Q .none st)):y6 a kvs st Q 1 [.int i]
 |G' {i:Int} {d:AV} (hi:IntKeys kvs) (q:(∃v,(AV.int i,v)∈kvs/\Q v st)\/(AV.int i∉kvs.map (·.1)/\Q d st)):y6 a kvs st Q 1 [.int i,d]
 |Tg {i:Int} {d:AV} (hi:IntKeys kvs) (q:(∃v,(AV.int i,v)∈kvs/\Q v st)\/(AV.int i∉kvs.map (·.1)/\kvs.length<fF/\Q d (st.set a (.dict (kvs++[(.int i,d)]))))):y6 a kvs st Q 2 [.int i,d]
structure Qp where
 meths:List (Nat×Nat)
 init:Nat
structure mO where
 params:List Nat
 Im:List AV
 size:Nat
 body:w0
structure UN where
 fns:List mO
 Dn:List Qp
noncomputable abbrev Ak:=AV->List AV->AS->(AV->AS->Prop)->Prop
inductive Qq (st:AS) (x:Nat) (Q:AV->AS->Prop):AV->Prop where
 |mk {a c dx:Nat} {fs:List (Nat×AV)} {u:AV} (hs:st a=some (.inst c dx fs)) (hx:fs.lookup x=some u) (q:Q u st):Qq st x Q (.ref a)
inductive yc (P:UN) (X:Ak) (x:Nat) (st:AS) (E:(List AV->AS->Prop)->Prop) (Q:AV->AS->Prop):AV->Prop where
 |inst {a c dx f:Nat} {fs:List (Nat×AV)} {C:Qp} (hs:st a=some (.inst c dx fs)) (hx:fs.lookup x=none) (hC:P.Dn[c]? =some C) (hf:C.meths.lookup x=some f) (q:E λvs st=>X (.fn f) (.ref a::vs) st Q):yc P X x st E Q (.ref a)
 |list {a:Nat} {xs:List AV} (hs:st a=some (.list xs)) (hx:x=0\/x=3) (q:E λvs st=>∃xs,st a=some (.list xs)/\y4 a xs st Q x vs):yc P X x st E Q (.ref a)
 |dict {a:Nat} {kvs:List (AV×AV)} (hs:st a=some (.dict kvs)) (hx:x=1\/x=2) (q:E λvs st=>∃kvs,st a=some (.dict kvs)/\y6 a kvs st Q x vs):yc P X x st E Q (.ref a)
inductive w_ (st:AS) (K:Nat->Nat->Nat->List (Nat×AV)->Prop):AV->Prop where
 |mk {a c dx:Nat} {fs:List (Nat×AV)} (hs:st a=some (.inst c dx fs)) (q:K a c dx fs):w_ st K (.ref a)
inductive ON (st:AS) (v:AV) (Q:AS->Prop):AV->AV->Prop where
 |list {a:Nat} {xs:List AV} {j:Int} (hs:st a=some (.list xs)) (h0:0<=j) (hl:j.toNat<xs.length) (q:Q (st.set a (.list (xs.set j.toNat v)))):ON st v Q (.ref a) (.int j)
 |dict {a:Nat} {kvs:List (AV×AV)} {k:AV} (hs:st a=some (.dict kvs)) (hk:ta k kvs) (hl:kvs.length<fF) (q:Q (st.set a (.dict (dictPut kvs k v)))):ON st v Q (.ref a) k
inductive Q9 (st:AS) (Q:AS->Prop):AV->AV->AV->AV->Prop where
 |mk {a b:Nat} {l h:Int} {xs ys:List AV} (ha:st a=some (.list xs)) (hb:st b=some (.list ys)) (hne:a≠b) (h0:0<=l) (h1:l<=h) (h2:h.toNat<=xs.length) (hl:xs.length+ys.length<=fF) (q:Q (st.set a (.list (xs.take l.toNat++ys++xs.drop h.toNat)))):Q9 st Q (.ref a) (.ref b) (.int l) (.int h)
section
variable (P:UN) (X:Ak)
mutual
noncomputable def VE:CE->MM->AS->(AV->AS->Prop)->Prop
 | .var i,m,st,Q=>∃v,m[i]? =some (some v)/\Q v st
 | .cst v,_,st,Q=>Q v st
 | .tup es,m,st,Q=>Io es m st λvs st=>Q (.tup vs) st
 | .lst es,m,st,Q=>Io es m st λvs st=>∀c,st.free c->Q (.ref c) (st.set c (.list vs))
 | .bin o a b,m,st,Q=>VE a m st λv st=>VE b m st λw st=>Aj st Q o v w
 | .neg a,m,st,Q=>VE a m st λv st=>G9 (λi=>Q (.int (-i)) st) v
 | .not a,m,st,Q=>VE a m st λv st=>∃b,nN st v b/\Q (.bool (!b)) st
 | .and a b,m,st,Q=>VE a m st λv st=>∃t,nN st v t/\if t then VE b m st Q else Q v st
 | .or a b,m,st,Q=>VE a m st λv st=>∃t,nN st v t/\if t then Q v st else VE b m st Q
 | .cmp a o b,m,st,Q=>VE a m st λv st=>VE b m st λw st=>pW st (λr=>Q (.bool r) st) o v w
 | .EP a o b p c,m,st,Q=>VE a m st λv st=>VE b m st λw st=>pW st (λr=>
  if r then VE c m st λu st=>pW st (λr=>Q (.bool r) st) p w u else Q (.bool false) st) o v w
 | .ite c a b,m,st,Q=>VT c (VE c) m st λt st=>if t then VE a m st Q else VE b m st Q
 | .attr e x,m,st,Q=>VE e m st λv st=>Qq st x Q v
 | .sub e i,m,st,Q=>VE e m st λv st=>VE i m st λk st=>zC st Q v k
 | .tY e lo hi,m,st,Q=>VE e m st λv st=>VE lo m st λl st=>VE hi m st λh st=>G8 st Q v l h
 | .rev e,m,st,Q=>VE e m st λv st=>OL st Q v
 | .call f es,m,st,Q=>VE f m st λfv st=>Io es m st λvs st=>X fv vs st Q
 | .fM o x es,m,st,Q=>VE o m st λov st=>yc P X x st (λK=>Io es m st K) Q ov
 | .comp caps elt tgt iter conds rest,m,st,Q=>
  VE iter m st λv st=>oi st (λit xs=>
   xs.foldr (λx k acc st=>it.ok st/\∃m',jN tgt x (caps.map λc=>c.bind λj=>(m[j]?).join)=some m'/\Oi conds m' st λt st=>if t then VG (VE elt) rest m' acc st k else k acc st)
   (λacc st=>it.ok st/\∀c,st.free c->Q (.ref c) (st.set c (.list acc))) [] st) v
 | .dict es,m,st,Q=>Io es m st λvs st=>∃kvs:List (Int×AV),vs=Ci kvs/\(kvs.map (·.1)).Nodup/\∀c,st.free c->Q (.ref c) (st.set c (.dict (kvs.map λp=>(.int p.1,p.2))))
 | .ER e body,m,st,Q=>VE e m st λv st=>ph st (λxs=>xs.length<6/\
  ∃key:AV->AV,(∀x∈xs,∀Q',Q' (key x) st->VE body [some x] st Q')/\qX (xs.map key)/\(xs.Pairwise λa b=>Lt (key a) (key b)\/Lt (key b) (key a))/\
  ∃ys,ys.Perm xs/\(ys.Pairwise λa b=>Lt (key a) (key b))/\∀c,st.free c->Q (.ref c) (st.set c (.list ys))) v
noncomputable def Io:wZ->MM->AS->(List AV->AS->Prop)->Prop
 | .nil,_,st,Q=>Q [] st
 | .cons e r,m,st,Q=>VE e m st λv st=>Io r m st λvs st=>Q (v::vs) st
noncomputable def VT:CE->(MM->AS->(AV->AS->Prop)->Prop)->MM->AS->(Bool->AS->Prop)->Prop
 | .not a,_,m,st,Q=>VT a (VE a) m st λb st=>Q (!b) st
 | .and a b,_,m,st,Q=>VT a (VE a) m st λt st=>if t then VT b (VE b) m st Q else Q false st
 | .or a b,_,m,st,Q=>VT a (VE a) m st λt st=>if t then Q true st else VT b (VE b) m st Q
 | .ite c a b,_,m,st,Q=>VT c (VE c) m st λt st=>if t then VT a (VE a) m st Q else VT b (VE b) m st Q
 |_,W,m,st,Q=>W m st λv st=>∃b,nN st v b/\Q b st
noncomputable def Oi:wZ->MM->AS->(Bool->AS->Prop)->Prop
 | .nil,_,st,Q=>Q true st
 | .cons e r,m,st,Q=>VT e (VE e) m st λt st=>if t then Oi r m st Q else Q false st
noncomputable def VG (W:MM->AS->(AV->AS->Prop)->Prop):Gens->MM->List AV->AS->(List AV->AS->Prop)->Prop
 | .nil,m,acc,st,K=>W m st λv st=>acc.length<fF/\K (acc++[v]) st
 | .cons tgt iter conds rest,m,acc,st,K=>
  rest= .nil/\VE iter m st λv st=>oi st (λit xs=>
   xs.foldr (λx k acc st=>it.ok st/\∃m',jN tgt x (Oh tgt m)=some m'/\Oi conds m' st λt st=>if t then VG W rest m' acc st k else k acc st)
   (λacc st=>it.ok st/\K acc st) acc st) v
end
mutual
noncomputable def VS:CS->MM->AS->(Fl->MM->AS->Prop)->Prop
 | .asg i e,m,st,Q=>VE P X e m st λv st=>Q .next (m.set i (some v)) st
 | .s_ is e,m,st,Q=>VE P X e m st λv st=>∃xs m',v= .tup xs/\jN is (.tup xs) m=some m'/\2<=is.length/\Q .next m' st
 | .iA o x e,m,st,Q=>VE P X e m st λv st=>VE P X o m st λov st=>w_ st (λa c dx fs=>Q .next m (st.set a (.inst c dx (iy fs x v)))) ov
 | .ES o x o' x' e,m,st,Q=>VE P X e m st λv st=>∃v1 v2,v= .tup [v1,v2]/\VE P X o m st λov st=>w_ st (λa c dx fs=>
  VE P X o' m (st.set a (.inst c dx (iy fs x v1))) λov' st=>w_ st (λa' c' dx' fs'=>Q .next m (st.set a' (.inst c' dx' (iy fs' x' v2)))) ov') ov
 | .tZ o i e,m,st,Q=>VE P X e m st λv st=>VE P X o m st λov st=>VE P X i m st λk st=>ON st v (Q .next m) ov k
 | .Lv o lo hi e,m,st,Q=>VE P X e m st λv st=>VE P X o m st λov st=>VE P X lo m st λl st=>VE P X hi m st λh st=>Q9 st (Q .next m) ov v l h
 | .ex e,m,st,Q=>VE P X e m st λ_ st=>Q .next m st
 | .ret e,m,st,Q=>VE P X e m st λv st=>Q (.ret v) m st
 | .iff c a b,m,st,Q=>VT P X c (VE P X c) m st λt st=>if t then jo a m st Q else jo b m st Q
 | .ET c b,m,st,Q=>∃n:Nat,N3 (motive:=λ_=>MM->AS->Prop) (λ_ _=>False)
  (λ_ k m st=>VT P X c (VE P X c) m st λt st=>if t then jo b m st λfl m st=>(match fl with | .next=>k m st | .brk=>Q .next m st | .ret v=>Q (.ret v) m st) else Q .next m st) n m st
 | .kg tgt e b,m,st,Q=>VE P X e m st λv st=>oi st (λit xs=>
  xs.foldr (λx k m st=>it.ok st/\∃m',jN tgt x m=some m'/\jo b m' st λfl m st=>(match fl with | .next=>k m st | .brk=>Q .next m st | .ret v=>Q (.ret v) m st))
  (λm st=>it.ok st/\Q .next m st) m st) v
 | .brk,m,st,Q=>Q .brk m st
noncomputable def jo:w0->MM->AS->(Fl->MM->AS->Prop)->Prop
 | .nil,m,st,Q=>Q .next m st
 | .cons s r,m,st,Q=>VS s m st λfl m st=>(match fl with | .next=>jo r m st Q |fl=>Q fl m st)
end
end
noncomputable def bindArgs (f:mO) (args:List AV):Option MM:=
 let vs:=args++f.Im.drop (args.length+f.Im.length -f.params.length)
 if vs.length=f.params.length/\args.length<=f.params.length then some ((f.params.zip vs).foldl (λm p=>m.set p.1 (some p.2)) (gm f.size none)) else none
noncomputable def y7:Fl->AV
 | .ret v=>v
 |_=>.none
noncomputable def eE (P:UN):Nat->Ak
 |0,_,_,_,_=>False
 |n+1,f,args,st,Q=>match f with
  | .fn k=>2<=n/\∃F m,P.fns[k]? =some F/\bindArgs F args=some m/\jo P (eE P n) F.body m st λfl _ st'=>∃st₂,AS.le st₂ st'/\Q (y7 fl) st₂
  | .cls c=>∃C,P.Dn[c]? =some C/\∀a dx,st.free a->st.free dx->a≠dx->eE P n (.fn C.init) (.ref a::args) (st.set a (.inst c dx [])) λv st'=>v= .none/\Q (.ref a) st'
  | .bi b=>Il b args st Q
  |_=>False
end
open Mine.AS renaming le->eD,set->u_
open PySem PySem.W PySem.Calls PyProof.Rows PySem.SeqAt PySem.Spec
variable {ao cB:j7} {e8:List (j7×h)}
variable {bB:List j7}
variable {a0:gf}
variable {v:gn} {az:List gf} {C:List Nat}
section
noncomputable def tc:Str:=⟨⟨[95,95,100,101,98,117,103,95,95]⟩⟩
noncomputable def G_:Str:=⟨⟨[115,117,112,101,114]⟩⟩
noncomputable def JD:Str:=⟨⟨[107,101,121]⟩⟩
noncomputable def ve:Str:=⟨⟨[115,111,114,116,101,100]⟩⟩
noncomputable def td:Str:=⟨⟨[95,95,99,108,97,115,115,100,105,99,116,95,95]⟩⟩
noncomputable def AT:List Str:=[⟨⟨[97,112,112,101,110,100]⟩⟩,
 ⟨⟨[103,101,116]⟩⟩,
 ⟨⟨[115,101,116,100,101,102,97,117,108,116]⟩⟩,
 ⟨⟨[112,111,112]⟩⟩,
 ⟨⟨[99,108,97,115,115,95,111,102]⟩⟩,
 ⟨⟨[116,111,108,100]⟩⟩,
 ⟨⟨[103,108,121,112,104,115]⟩⟩,
 ⟨⟨[110,101,120,116,95,108,105,103]⟩⟩,
 ⟨⟨[97,100,100]⟩⟩,
 ⟨⟨[115,116,97,116,101,95,99,111,117,110,116]⟩⟩,
 ⟨⟨[115,116,101,112]⟩⟩,
 ⟨⟨[105,115,95,111,112,101,110]⟩⟩,
 ⟨⟨[100,101,99,105,100,101]⟩⟩,
 ⟨⟨[102,101,101,100]⟩⟩,
 ⟨⟨[102,105,110,105,115,104]⟩⟩,
 ⟨⟨[103,108,121,112,104,95,99,108,97,115,115]⟩⟩,
 ⟨⟨[97,116,116,97,99,104,95,99,108,97,115,115]⟩⟩,
 ⟨⟨[105,115,95,105,110,95,115,101,116]⟩⟩,
 ⟨⟨[104,97,115]⟩⟩,
 ⟨⟨[99,111,117,110,116]⟩⟩,
 ⟨⟨[103,108,121,112,104,115,95,111,102]⟩⟩,
 ⟨⟨[99,111,112,105,101,100]⟩⟩,
 ⟨⟨[99,108,117,115,116,101,114,115]⟩⟩,
 ⟨⟨[110,101,120,116,95,115,112,108,105,116]⟩⟩,
 ⟨⟨[108,105,103,95,105,100]⟩⟩,
 ⟨⟨[108,105,103,95,112,97,114,116]⟩⟩,
 ⟨⟨[108,105,103,95,99,111,117,110,116]⟩⟩,
 ⟨⟨[98,117,102,102,101,114]⟩⟩,
 ⟨⟨[114,111,119]⟩⟩,
 ⟨⟨[103,108,121,112,104]⟩⟩,
 ⟨⟨[115,112,108,105,116,95,105,100]⟩⟩,
 ⟨⟨[105,115,95,117,110,115,97,102,101]⟩⟩,
 ⟨⟨[115,116,101,112,115]⟩⟩,
 ⟨⟨[99,108,97,115,115,101,115]⟩⟩,
 ⟨⟨[99,111,100,101]⟩⟩,
 ⟨⟨[99,108,117,115,116,101,114]⟩⟩,
 ⟨⟨[109,97,115,107]⟩⟩,
 ⟨⟨[107,105,110,100]⟩⟩,
 ⟨⟨[120,95,97,100,118,97,110,99,101]⟩⟩,
 ⟨⟨[121,95,97,100,118,97,110,99,101]⟩⟩,
 ⟨⟨[120,95,111,102,102,115,101,116]⟩⟩,
 ⟨⟨[121,95,111,102,102,115,101,116]⟩⟩,
 ⟨⟨[112,97,114,101,110,116]⟩⟩,
 ⟨⟨[98,111,110,100]⟩⟩,
 ⟨⟨[105,115,95,98,97,99,107,119,97,114,100]⟩⟩,
 ⟨⟨[108,97,115,116,95,108,105,103]⟩⟩,
 ⟨⟨[108,97,115,116,95,115,112,108,105,116]⟩⟩,
 ⟨⟨[102,108,97,103]⟩⟩,
 ⟨⟨[109,97,114,107,95,115,101,116]⟩⟩,
 ⟨⟨[116,97,98,108,101,115]⟩⟩,
 ⟨⟨[103,100,101,102]⟩⟩,
 ⟨⟨[108,111,111,107,117,112,115]⟩⟩,
 ⟨⟨[108,111,111,107,117,112]⟩⟩,
 ⟨⟨[100,101,112,116,104]⟩⟩,
 ⟨⟨[115,101,116,115]⟩⟩,
 ⟨⟨[101,110,100,115]⟩⟩,
 ⟨⟨[116,114,105,101]⟩⟩,
 ⟨⟨[104,101,108,100]⟩⟩,
 ⟨⟨[114,111,119,115]⟩⟩,
 ⟨⟨[97,116,116,97,99,104]⟩⟩,
 ⟨⟨[112,111,105,110,116,115]⟩⟩,
 ⟨⟨[99,97,114,101,116,115]⟩⟩]
noncomputable def r5:List j7->j7->Option Nat
 |[],_=>none
 |y::r,x=>if x=y then some 0 else (r5 r x).map (·+1)
noncomputable def h_ {α:Type}:List (j7×α)->j7->Option α
 |[],_=>none
 |(y,v)::r,x=>if x=y then some v else h_ r x
theorem te:h_ ((ao,dp)::e8) cB=if cB=ao then some dp else h_ e8 cB:=rfl
theorem Ck:r5 (ao::bB) cB=if cB=ao then some 0 else (r5 bB cB).map (·+1):=rfl
@[elab_as_elim] noncomputable def rB {M:gf->Type} (k:Nat) (e:gf) (f:Expr.ctorElimType.{1} (motive_1:=M) k) (g:M e):M e:=if h:k=e.ctorIdx then Expr.ctorElim k e h f else g
noncomputable def EU (e:gf):Option Str:=rB (M:=λ_=>Option j7) 23 e ⟨λx _=>some x⟩ none
theorem Cm (h:EU a0=some ao):∃p,a0= .Name ao p:=by
 rcases a0 with ⟨⟩<;>first |contradiction |skip
 exact oK _ (congrArg (Expr.Name · _) (d5 h))
noncomputable def isVar:vz->Bool
 | .local=>true
 | .cell=>true
 | .free=>true
 |_=>false
noncomputable def Qr:vz->Bool
 | .local=>true
 | .cell=>true
 |_=>false
noncomputable abbrev gn:=List (j7×vz)
noncomputable def slots (ns:gn):List Str:=(ns.filter λx=>isVar x.2).map (·.1)
noncomputable def Th:Operator->Option Sk
 | .Add=>some .add
 | .Sub=>some .sub
 | .Mult=>some .mul
 | .Mod=>some .mod
 | .FloorDiv=>some .fdiv
 | .BitAnd=>some .band
 |_=>none
noncomputable def zD:Et->Og
 | .Eq=>.eq | .NotEq=>.ne | .Lt=>.lt | .LtE=>.le | .Gt=>.gt | .GtE=>.ge | .Is=>.Sl | .IsNot=>.Tc | .In=>.Tb | .NotIn=>.Cf
noncomputable def Lx:Const->Option AV
 | .int i=>some (.int i)
 | .str s=>some (.str s.cps.toList)
 | .bool b=>some (.bool b)
 | .none=>some .none
 |_=>none
noncomputable def wZ.len:wZ->Nat
 | .nil=>0
 | .cons _ r=>r.len+1
section
variable (G:List (j7×AV))
noncomputable def uw (ns:gn) (x:j7):Option CE:=
 if x=tc then none else match h_ ns x with
  |some .globalImplicit=>(h_ G x).map .cst
  |some k=>if isVar k then (r5 (slots ns) x).map .var else none
  |none=>none
theorem Cn {ns:gn} {x:j7} {c:CE} (h:uw G ns x=some c):¬x=tc/\((h_ ns x=some .globalImplicit/\∃v,h_ G x=some v/\c= .cst v)\/∃k i,h_ ns x=some k/\(k= .local\/k= .cell\/k= .free)/\r5 (slots ns) x=some i/\c= .var i):=by
 unfold uw at h
 by_cases hd:x=tc
 .rw [if_pos hd] at h;contradiction
 .rw [if_neg hd] at h
  refine ⟨hd,?_⟩
  induction q:h_ ns x with
  |none=>rw [q] at h;contradiction
  |some k=>
   rw [q] at h
   have m:∀k:vz,(r5 (slots ns) x).map CE.var=some c->k= .local\/k= .cell\/k= .free->(some k=some .globalImplicit/\∃v,h_ G x=some v/\c= .cst v)\/∃k' i,some k=some k'/\(k'= .local\/k'= .cell\/k'= .free)/\r5 (slots ns) x=some i/\c= .var i:=λk h o=>.inr (eS (fW.mp h) λi a b=>⟨k,i,rfl,o,a,b.symm⟩)
   induction k using H8 with
   |globalImplicit=>exact .inl ⟨rfl,eS (fW.mp h) λv a b=>⟨v,a,b.symm⟩⟩
   |«local»=>exact m _ h (.inl rfl)
   |cell=>exact m _ h (.inr (.inl rfl))
   |free=>exact m _ h (.inr (.inr rfl))
   |_=>contradiction
noncomputable def om (ns:gn) (x:j7):Option Nat:=match h_ ns x with
 |some k=>if Qr k then r5 (slots ns) x else none
 |none=>none
noncomputable def ux (ns:gn):List gf->Option (List Nat)
 |[]=>some []
 |e::r=>((EU e).bind (om ns)).bind λi=>(ux ns r).map (i::·)
theorem tf (h:ux v (a0::az)=some C):∃x p i a,om v x=some i/\ux v az=some a/\a0= .Name x p/\C=i::a:=
 eS (jh.mp h) λi j e=>eS (jh.mp j) λx d g=>j_ (Cm d) λp c=>eS (fW.mp e) λa b f=>⟨x,p,i,a,g,b,c,f.symm⟩
noncomputable def Am (ns:gn) (e:gf):Option (List Nat):=rB (M:=λ_=>Option (List Nat)) 23 e ⟨λx _=>(om ns x).map ([·])⟩
 (rB (M:=λ_=>Option (List Nat)) 25 e ⟨λes _ _=>(ux ns es).bind λl=>if 2<=l.length then some l else none⟩ none)
noncomputable def xa (e:gf):Bool:=!(e.ctorIdx==22||e.ctorIdx==7||e.ctorIdx==9||e.ctorIdx==10)
noncomputable def An:List gf->Bool
 |[]=>true
 |e::r=>xa e&&An r
noncomputable def qm (ns ms:gn):List (Option Nat):=(slots ms).map λx=>if h_ ms x=some .free then r5 (slots ns) x else none
noncomputable def yd (ns:gn) (e:gf):Bool:=decide (EU e=some ve)&&decide (h_ ns ve=some .globalImplicit)
noncomputable def Ti:Str:=⟨⟨[115,101,116,115]⟩⟩
noncomputable def Ly:Str:=⟨⟨[119,111,114,100,115,95,111,102]⟩⟩
noncomputable def BN (ns:gn):Bool:=decide (h_ ns Ti=some .local)&&decide (h_ ns Ly=some .globalImplicit)
noncomputable def Ao (sc:En):Bool:=decide (sc.kind= .function)&&!sc.isGenerator&&!sc.isCoroutine&&decide (sc.names.map (·.1)).Nodup&&!decide (td∈sc.names.map (·.1))
noncomputable def Dp (sc:En):Bool:=Ao sc&&!BN sc.names
noncomputable def qY (ns:gn):gn->Bool
 |[]=>true
 |(x,k)::r=>(match k with
  | .free=>(match h_ ns x with |some .cell=>true |some .free=>true |_=>false)
  |_=>true)&&qY ns r
noncomputable def Ha (sc:En):List Arg->Bool
 |[x]=>x.annotation.isNone&&decide (slots sc.names=[x.arg])&&decide (h_ sc.names x.arg=some .local)
 |_=>false
noncomputable def Co (a:yW) (sc:En):Bool:=a.posonlyargs.isEmpty&&a.vararg.isNone&&a.kwonlyargs.isEmpty&&a.kw_defaults.isEmpty&&a.kwarg.isNone&&a.defaults.isEmpty&&Dp sc&&qY [] sc.names&&Ha sc a.args
noncomputable def Ip (e:gf):Bool:=e.ctorIdx==16
noncomputable def EV (t e:gf):Bool:=rB (M:=λ_=>Bool) 25 t ⟨λ_ _ _=>rB (M:=λ_=>Bool) 25 e ⟨λvs _ _=>vs.any λe=>!GU 8 e⟩ true⟩ true
noncomputable abbrev argNames (as:List Arg):List Str:=as.map (·.arg)
noncomputable def Dq (l:List j7):List j7->Option (List Nat)
 |[]=>some []
 |x::r=>(r5 l x).bind λi=>(Dq l r).map (i::·)
end
structure Def where
 params:yW
 body:List zt
 scope:En
noncomputable def noFn:mO:=⟨[],[],0,.cons (.ex (.var 0)) .nil⟩
end
noncomputable def GG:List (j7×AV):=[(⟨⟨[95,119,97,108,108]⟩⟩,.fn 0),(⟨⟨[67,108,97,115,115,68,101,102]⟩⟩,.cls 0),(⟨⟨[73,110,102,111]⟩⟩,.cls 1),(⟨⟨[66,117,102,102,101,114]⟩⟩,.cls 2),(⟨⟨[115,101,116,95,99,108,117,115,116,101,114]⟩⟩,.fn 15),(⟨⟨[119,105,100,101,110,101,100]⟩⟩,.fn 16),(⟨⟨[109,101,114,103,101]⟩⟩,.fn 17),(⟨⟨[73,71,78,79,82,69,95,66,65,83,69,83]⟩⟩,.int 2),(⟨⟨[73,71,78,79,82,69,95,76,73,71,65,84,85,82,69,83]⟩⟩,.int 4),(⟨⟨[73,71,78,79,82,69,95,77,65,82,75,83]⟩⟩,.int 8),(⟨⟨[85,83,69,95,83,69,84]⟩⟩,.int 16),(⟨⟨[76,111,111,107,117,112]⟩⟩,.cls 3),(⟨⟨[83,99,101,110,101]⟩⟩,.cls 4),(⟨⟨[97,116,116,97,99,104,95,119,97,110,116,101,100]⟩⟩,.fn 21),(⟨⟨[99,108,97,115,115,95,98,105,116]⟩⟩,.fn 22),(⟨⟨[105,115,95,105,103,110,111,114,101,100]⟩⟩,.fn 23),(⟨⟨[112,97,115,115,101,115]⟩⟩,.fn 24),(⟨⟨[75,73,78,68,83,95,73,78,95,73,78,80,85,84]⟩⟩,.tup [.str [122,119,106],.str [104,105,100,100,101,110]]),(⟨⟨[103,108,121,112,104,95,116,101,115,116,115]⟩⟩,.fn 25),(⟨⟨[102,105,116,115]⟩⟩,.fn 26),(⟨⟨[105,115,95,98,111,114,110,101]⟩⟩,.fn 27),(⟨⟨[102,111,117,110,100,95,97,116]⟩⟩,.fn 28),(⟨⟨[105,110,112,117,116,95,97,116]⟩⟩,.fn 29),(⟨⟨[105,115,95,112,105,101,99,101]⟩⟩,.fn 30),(⟨⟨[104,111,108,100,95,116,111,103,101,116,104,101,114]⟩⟩,.fn 31),(⟨⟨[66,65,83,69,95,108,105,103,97,116,117,114,101]⟩⟩,.int 1),(⟨⟨[77,65,82,75]⟩⟩,.int 3),(⟨⟨[98,101,103,105,110,115,95,119,105,116,104]⟩⟩,.fn 32),(⟨⟨[108,105,118,101,95,114,111,119,115]⟩⟩,.fn 33),(⟨⟨[76,105,103,97,116,117,114,101]⟩⟩,.cls 5),(⟨⟨[112,97,114,116,95,99,111,117,110,116]⟩⟩,.fn 36),(⟨⟨[119,97,121,95,111,102]⟩⟩,.fn 37),(⟨⟨[116,105,101]⟩⟩,.fn 38),(⟨⟨[116,105,101,95,98,101,104,105,110,100]⟩⟩,.fn 39),(⟨⟨[116,105,101,95,97,108,108]⟩⟩,.fn 40),(⟨⟨[106,111,105,110]⟩⟩,.fn 41),(⟨⟨[97,112,112,108,121,95,108,105,103,97,116,117,114,101]⟩⟩,.fn 42),(⟨⟨[78,79,78,69]⟩⟩,.int (-1)),(⟨⟨[84,114,105,101]⟩⟩,.cls 6),(⟨⟨[116,114,105,101,95,111,102]⟩⟩,.fn 47),(⟨⟨[119,111,114,100,115,95,111,102]⟩⟩,.fn 48),(⟨⟨[116,97,98,108,101,95,111,102]⟩⟩,.fn 49),(⟨⟨[115,112,101,108,108,105,110,103,115]⟩⟩,.fn 50),(⟨⟨[108,111,110,103,101,115,116]⟩⟩,.fn 51),(⟨⟨[114,117,110,95,116,114,105,101,115]⟩⟩,.fn 52),(⟨⟨[114,117,110,95,116,114,105,101]⟩⟩,.fn 53),(⟨⟨[70,101,101,100,101,114]⟩⟩,.cls 7),(⟨⟨[108,101,97,115,116,95,116,114,105,101]⟩⟩,.fn 59),(⟨⟨[105,110,95,98,114,101,97,100,116,104]⟩⟩,.fn 60),(⟨⟨[83,116,97,116,101,84,97,98,108,101]⟩⟩,.cls 8),(⟨⟨[99,111,108,117,109,110,115,95,111,102]⟩⟩,.fn 63),(⟨⟨[115,116,97,116,101,95,116,97,98,108,101]⟩⟩,.fn 64),(⟨⟨[114,117,110,95,115,116,97,116,101,115]⟩⟩,.fn 65),(⟨⟨[78,79,95,67,76,65,83,83]⟩⟩,.int 0),(⟨⟨[66,65,83,69,95,103,100,101,102]⟩⟩,.int 1),(⟨⟨[67,79,77,80,79,78,69,78,84]⟩⟩,.int 4),(⟨⟨[71,100,101,102]⟩⟩,.cls 9),(⟨⟨[110,111,95,103,100,101,102]⟩⟩,.fn 71),(⟨⟨[95,108,97,119,95,100,114,97,119]⟩⟩,.fn 72),(⟨⟨[95,108,97,119,95,115,101,116,115]⟩⟩,.fn 73),(⟨⟨[95,108,97,119,95,119,111,114,100,115]⟩⟩,.fn 74),(⟨⟨[95,108,97,119,95,114,117,110]⟩⟩,.fn 75),(⟨⟨[95,108,97,119,95,97,112,112,108,105,101,100]⟩⟩,.fn 76),(⟨⟨[95,108,97,119,95,102,101,100]⟩⟩,.fn 77),(⟨⟨[95,108,97,119,95,97,102,116,101,114]⟩⟩,.fn 78),(⟨⟨[95,108,97,119,95,115,105,122,101,115]⟩⟩,.fn 79),(⟨⟨[95,108,97,119,95,105,110,95,111,114,100,101,114]⟩⟩,.fn 80),(⟨⟨[108,97,119]⟩⟩,.fn 81),(⟨⟨[108,101,110]⟩⟩,.bi 0),(⟨⟨[115,111,114,116,101,100]⟩⟩,.bi 1),(⟨⟨[109,105,110]⟩⟩,.bi 2),(⟨⟨[109,97,120]⟩⟩,.bi 3),(⟨⟨[114,97,110,103,101]⟩⟩,.bi 4),(⟨⟨[116,117,112,108,101]⟩⟩,.bi 5),(⟨⟨[100,105,99,116]⟩⟩,.bi 6),(⟨⟨[97,110,121]⟩⟩,.bi 7),(⟨⟨[97,98,115]⟩⟩,.bi 8),(⟨⟨[105,110,116]⟩⟩,.bi 9),(⟨⟨[108,105,115,116]⟩⟩,.bi 10)]
noncomputable def c1:mO:=⟨[0,1],[],2,.cons (.iA (.var 0) 33 (.var 1)) .nil⟩
noncomputable def c2:mO:=⟨[0,1],[],2,.cons (.ret (.fM (.attr (.var 0) 33) 1 (.cons (.var 1) (.cons (.cst (.int 0)) .nil)))) .nil⟩
noncomputable def c5:mO:=⟨[0],[],1,.cons (.ret (.call (.cst (.bi 5)) (.cons (.comp [none,none,some 0] (.tup (.cons (.var 1) (.cons (.sub (.attr (.var 2) 33) (.var 1)) .nil))) [1] (.call (.cst (.bi 1)) (.cons (.attr (.var 0) 33) .nil)) .nil .nil) .nil))) .nil⟩
noncomputable def c6:mO:=⟨[0,1,2,3],[],4,.cons (.iA (.var 0) 34 (.var 1)) (.cons (.iA (.var 0) 29 (.var 2)) (.cons (.iA (.var 0) 35 (.var 3)) (.cons (.iA (.var 0) 36 (.cst (.int 0))) (.cons (.iA (.var 0) 31 (.cst (.bool false))) (.cons (.iA (.var 0) 24 (.cst (.int 0))) (.cons (.iA (.var 0) 25 (.cst (.int 0))) (.cons (.iA (.var 0) 26 (.cst (.int 0))) (.cons (.iA (.var 0) 30 (.cst (.int 0))) (.cons (.iA (.var 0) 37 (.cst (.str []))) (.cons (.iA (.var 0) 38 (.cst (.int 0))) (.cons (.iA (.var 0) 39 (.cst (.int 0))) (.cons (.iA (.var 0) 40 (.cst (.int 0))) (.cons (.iA (.var 0) 41 (.cst (.int 0))) (.cons (.iA (.var 0) 42 (.cst (.int 0))) (.cons (.iA (.var 0) 43 (.cst (.str []))) .nil)))))))))))))))⟩
noncomputable def c9:mO:=⟨[0,1,2],[.bool false],3,.cons (.iA (.var 0) 28 (.var 1)) (.cons (.iA (.var 0) 44 (.var 2)) (.cons (.iA (.var 0) 45 (.cst (.int 0))) (.cons (.iA (.var 0) 46 (.cst (.int 0))) .nil)))⟩
noncomputable def Tj:mO:=⟨[0],[],1,.cons (.ret (.comp [none,none] (.attr (.var 1) 29) [1] (.attr (.var 0) 28) .nil .nil)) .nil⟩
noncomputable def Xi:mO:=⟨[0],[],1,.cons (.iA (.var 0) 45 (.bin .add (.attr (.var 0) 45) (.cst (.int 1)))) (.cons (.ret (.attr (.var 0) 45)) .nil)⟩
noncomputable def Xj:mO:=⟨[0,1],[],2,.cons (.iff (.cmp (.attr (.var 0) 35) .ne (.var 1)) (.cons (.iA (.var 0) 35 (.var 1)) (.cons (.iA (.var 0) 31 (.cst (.bool false))) .nil)) .nil) .nil⟩
noncomputable def Xk:mO:=⟨[0,1,2],[],5,.cons (.asg 3 (.var 1)) (.cons (.asg 4 (.var 2)) (.cons (.ET (.and (.cmp (.var 4) .lt (.call (.cst (.bi 0)) (.cons (.var 0) .nil))) (.cmp (.attr (.sub (.var 0) (.var 4)) 35) .eq (.attr (.sub (.var 0) (.bin .sub (.var 4) (.cst (.int 1)))) 35))) (.cons (.asg 4 (.bin .add (.var 4) (.cst (.int 1)))) .nil)) (.cons (.ET (.and (.cmp (.var 3) .gt (.cst (.int 0))) (.cmp (.attr (.sub (.var 0) (.bin .sub (.var 3) (.cst (.int 1)))) 35) .eq (.attr (.sub (.var 0) (.var 3)) 35))) (.cons (.asg 3 (.bin .sub (.var 3) (.cst (.int 1)))) .nil)) (.cons (.ret (.tup (.cons (.var 3) (.cons (.var 4) .nil)))) .nil))))⟩
noncomputable def Xl:mO:=⟨[0,1,2],[],7,.cons (.iff (.cmp (.bin .sub (.var 2) (.var 1)) .lt (.cst (.int 2))) (.cons (.ret (.cst .none)) .nil) .nil) (.cons (.asg 4 (.call (.cst (.bi 2)) (.cons (.comp [none,none] (.attr (.var 1) 35) [1] (.tY (.attr (.var 0) 28) (.var 1) (.var 2)) .nil .nil) .nil))) (.cons (.s_ [5,6] (.call (.cst (.fn 16)) (.cons (.attr (.var 0) 28) (.cons (.var 1) (.cons (.var 2) .nil))))) (.cons (.kg [3] (.tY (.attr (.var 0) 28) (.var 5) (.var 6)) (.cons (.ex (.call (.cst (.fn 15)) (.cons (.var 3) (.cons (.var 4) .nil)))) .nil)) .nil)))⟩
noncomputable def Xm:mO:=⟨[0,1,2,3,4],[],5,.cons (.iA (.var 0) 37 (.var 1)) (.cons (.iA (.var 0) 47 (.var 2)) (.cons (.iA (.var 0) 48 (.var 3)) (.cons (.iA (.var 0) 49 (.var 4)) .nil)))⟩
noncomputable def Xn:mO:=⟨[0,1,2,3,4,5,6],[.int 0],7,.cons (.iA (.var 0) 27 (.var 1)) (.cons (.iA (.var 0) 50 (.var 2)) (.cons (.iA (.var 0) 51 (.var 3)) (.cons (.iA (.var 0) 52 (.var 4)) (.cons (.iA (.var 0) 36 (.var 5)) (.cons (.iA (.var 0) 53 (.var 6)) (.cons (.iA (.var 0) 32 (.lst (.cons (.cst (.int 0)) .nil))) .nil))))))⟩
noncomputable def Xo:mO:=⟨[0],[],1,.cons (.ret (.fM (.dict (.cons (.cst (.int 1)) (.cons (.cst (.int 2)) (.cons (.cst (.int 2)) (.cons (.cst (.int 4)) (.cons (.cst (.int 3)) (.cons (.cst (.int 8)) .nil))))))) 1 (.cons (.var 0) (.cons (.cst (.int 0)) .nil)))) .nil⟩
noncomputable def Xp:mO:=⟨[0,1,2],[],5,.cons (.asg 3 (.fM (.var 0) 15 (.cons (.var 2) .nil))) (.cons (.iff (.bin .band (.attr (.var 1) 47) (.call (.cst (.fn 22)) (.cons (.var 3) .nil))) (.cons (.ret (.cst (.bool true))) .nil) .nil) (.cons (.iff (.cmp (.var 3) .ne (.cst (.int 3))) (.cons (.ret (.cst (.bool false))) .nil) .nil) (.cons (.iff (.bin .band (.attr (.var 1) 47) (.cst (.int 16))) (.cons (.ret (.not (.fM (.var 0) 17 (.cons (.attr (.var 1) 48) (.cons (.var 2) .nil))))) .nil) .nil) (.cons (.asg 4 (.call (.cst (.fn 21)) (.cons (.attr (.var 1) 47) .nil))) (.cons (.ret (.and (.cmp (.var 4) .gt (.cst (.int 0))) (.cmp (.fM (.var 0) 16 (.cons (.var 2) .nil)) .ne (.var 4)))) .nil)))))⟩
noncomputable def Xq:mO:=⟨[0,1],[],2,.cons (.ret (.call (.cst (.fn 23)) (.cons (.attr (.var 0) 50) (.cons (.attr (.var 0) 52) (.cons (.attr (.sub (.attr (.attr (.var 0) 27) 28) (.var 1)) 29) .nil))))) .nil⟩
noncomputable def Xr:mO:=⟨[0],[],1,.cons (.ret (.call (.cst (.bi 5)) (.cons (.comp [none,none] (.tup (.cons (.cst (.str [103,108,121,112,104])) (.cons (.var 1) .nil))) [1] (.var 0) .nil .nil) .nil))) .nil⟩
noncomputable def Vr:mO:=⟨[0,1],[],2,.cons (.iff (.cmp (.sub (.var 0) (.cst (.int 0))) .eq (.cst (.str [103,108,121,112,104]))) (.cons (.ret (.cmp (.sub (.var 0) (.cst (.int 1))) .eq (.var 1))) .nil) .nil) (.cons (.iff (.cmp (.sub (.var 0) (.cst (.int 0))) .eq (.cst (.str [99,108,97,115,115]))) (.cons (.ret (.cmp (.fM (.sub (.var 0) (.cst (.int 1))) 4 (.cons (.var 1) .nil)) .eq (.sub (.var 0) (.cst (.int 2))))) .nil) .nil) (.cons (.ret (.fM (.sub (.var 0) (.cst (.int 1))) 18 (.cons (.var 1) .nil))) .nil))⟩
noncomputable def Xs:mO:=⟨[0,1],[],2,.cons (.ret (.cmp (.bin .band (.attr (.var 1) 36) (.attr (.var 0) 36)) .ne (.cst (.int 0)))) .nil⟩
noncomputable def Xt:mO:=⟨[0,1,2,3,4,5],[],8,.cons (.asg 6 (.bin .add (.var 1) (.var 2))) (.cons (.ET (.EP (.cst (.int 0)) .le (.var 6) .lt (.call (.cst (.bi 0)) (.cons (.attr (.attr (.var 0) 27) 28) .nil))) (.cons (.iff (.not (.call (.cst (.fn 24)) (.cons (.var 0) (.cons (.var 6) .nil)))) (.cons (.asg 7 (.sub (.attr (.attr (.var 0) 27) 28) (.var 6))) (.cons (.iff (.and (.call (.cst (.fn 26)) (.cons (.var 3) (.cons (.attr (.var 7) 29) .nil))) (.or (.call (.cst (.fn 27)) (.cons (.var 0) (.cons (.var 7) .nil))) (.not (.var 5)))) (.cons (.ret (.var 6)) .nil) .nil) (.cons (.iff (.cmp (.attr (.var 7) 37) .Cf (.var 4)) (.cons (.ret (.neg (.cst (.int 1)))) .nil) .nil) .nil))) .nil) (.cons (.asg 6 (.bin .add (.var 6) (.var 2))) .nil))) (.cons (.ret (.neg (.cst (.int 1)))) .nil))⟩
noncomputable def Xu:mO:=⟨[0,1,2],[],6,.cons (.iff (.not (.call (.cst (.fn 26)) (.cons (.sub (.var 2) (.cst (.int 0))) (.cons (.attr (.sub (.attr (.attr (.var 0) 27) 28) (.var 1)) 29) .nil)))) (.cons (.ret (.cst .none)) .nil) .nil) (.cons (.asg 3 (.lst (.cons (.var 1) .nil))) (.cons (.kg [4] (.tY (.var 2) (.cst (.int 1)) (.cst .none)) (.cons (.asg 5 (.call (.cst (.fn 28)) (.cons (.var 0) (.cons (.sub (.var 3) (.neg (.cst (.int 1)))) (.cons (.cst (.int 1)) (.cons (.var 4) (.cons (.cst (.tup [.str [122,119,106],.str [104,105,100,100,101,110]])) (.cons (.cst (.bool true)) .nil)))))))) (.cons (.iff (.cmp (.var 5) .lt (.cst (.int 0))) (.cons (.ret (.cst .none)) .nil) .nil) (.cons (.ex (.fM (.var 3) 0 (.cons (.var 5) .nil))) .nil)))) (.cons (.ret (.var 3)) .nil)))⟩
noncomputable def Xv:mO:=⟨[0],[],1,.cons (.ret (.and (.cmp (.attr (.var 0) 24) .ne (.cst (.int 0))) (.cmp (.attr (.var 0) 25) .ne (.cst (.int 0))))) .nil⟩
noncomputable def Xw:mO:=⟨[0,1],[],5,.cons (.asg 2 (.sub (.var 0) (.sub (.var 1) (.cst (.int 0))))) (.cons (.kg [3] (.tY (.var 1) (.cst (.int 1)) (.cst .none)) (.cons (.asg 4 (.sub (.var 0) (.var 3))) (.cons (.iff (.call (.cst (.fn 30)) (.cons (.var 2) .nil)) (.cons (.iff (.cmp (.tup (.cons (.attr (.var 4) 24) (.cons (.attr (.var 4) 25) .nil))) .ne (.tup (.cons (.attr (.var 2) 24) (.cons (.attr (.var 2) 25) .nil)))) (.cons (.ret (.cst (.bool false))) .nil) .nil) .nil) (.cons (.iff (.and (.call (.cst (.fn 30)) (.cons (.var 4) .nil)) (.cmp (.attr (.var 4) 24) .ne (.attr (.var 2) 24))) (.cons (.ret (.cst (.bool false))) .nil) .nil) .nil)) .nil))) (.cons (.ret (.cst (.bool true))) .nil))⟩
noncomputable def Xx:mO:=⟨[0,1],[],2,.cons (.ret (.cmp (.tY (.var 0) (.cst .none) (.call (.cst (.bi 0)) (.cons (.var 1) .nil))) .eq (.var 1))) .nil⟩
noncomputable def Xy:mO:=⟨[0],[],4,.cons (.asg 1 (.lst .nil)) (.cons (.kg [2,3] (.var 0) (.cons (.iff (.cmp (.comp [none,none,none,some 2] (.var 1) [1,2] (.var 1) (.cons (.call (.cst (.fn 32)) (.cons (.var 3) (.cons (.var 1) .nil))) .nil) .nil) .eq (.lst .nil)) (.cons (.ex (.fM (.var 1) 0 (.cons (.tup (.cons (.var 2) (.cons (.var 3) .nil))) .nil))) .nil) .nil) .nil)) (.cons (.ret (.var 1)) .nil))⟩
noncomputable def Xz:mO:=⟨[0,1],[],2,.cons (.iA (.var 0) 54 (.var 1)) .nil⟩
noncomputable def XA:mO:=⟨[0],[],2,.cons (.asg 1 (.comp [none,none,some 0] (.tup (.cons (.var 1) (.cons (.call (.cst (.bi 5)) (.cons (.call (.cst (.bi 1)) (.cons (.call (.cst (.fn 33)) (.cons (.sub (.attr (.var 2) 54) (.var 1)) .nil)) .nil)) .nil)) .nil))) [1] (.call (.cst (.bi 1)) (.cons (.attr (.var 0) 54) .nil)) .nil .nil)) (.cons (.ret (.call (.cst (.bi 5)) (.cons (.comp [none,none] (.var 1) [1] (.var 1) (.cons (.cmp (.sub (.var 1) (.cst (.int 1))) .ne (.tup .nil)) .nil) .nil) .nil))) .nil)⟩
noncomputable def XB:mO:=⟨[0],[],1,.cons (.ret (.call (.cst (.bi 3)) (.cons (.attr (.var 0) 26) (.cons (.cst (.int 1)) .nil)))) .nil⟩
noncomputable def XC:mO:=⟨[0,1],[],2,.cons (.iff (.cmp (.comp [none,none,some 0] (.var 1) [1] (.tY (.var 1) (.cst (.int 1)) (.cst .none)) (.cons (.cmp (.fM (.var 2) 15 (.cons (.var 1) .nil)) .ne (.cst (.int 3))) .nil) .nil) .ne (.lst .nil)) (.cons (.ret (.cst (.str [108,105,103,97,116,117,114,101]))) .nil) .nil) (.cons (.ret (.fM (.dict (.cons (.cst (.int 1)) (.cons (.cst (.str [98,97,115,101])) (.cons (.cst (.int 3)) (.cons (.cst (.str [109,97,114,107])) .nil))))) 1 (.cons (.fM (.var 0) 15 (.cons (.sub (.var 1) (.cst (.int 0))) .nil)) (.cons (.cst (.str [108,105,103,97,116,117,114,101])) .nil)))) .nil)⟩
noncomputable def XD:mO:=⟨[0,1,2,3,4,5],[],7,.cons (.asg 6 (.var 1)) (.cons (.ET (.and (.cmp (.var 2) .gt (.cst (.int 0))) (.and (.cmp (.var 6) .lt (.call (.cst (.bi 0)) (.cons (.var 0) .nil))) (.and (.cmp (.attr (.sub (.var 0) (.var 6)) 24) .eq (.var 2)) (.cmp (.attr (.sub (.var 0) (.var 6)) 25) .gt (.cst (.int 0)))))) (.cons (.ex (.call (.cst (.fn 38)) (.cons (.sub (.var 0) (.var 6)) (.cons (.var 3) (.cons (.var 4) (.cons (.var 5) .nil)))))) (.cons (.asg 6 (.bin .add (.var 6) (.cst (.int 1)))) .nil))) .nil)⟩
noncomputable def XE:mO:=⟨[0,1,2,3],[],10,.cons (.asg 4 (.sub (.var 0) (.sub (.var 1) (.cst (.int 0))))) (.cons (.s_ [5,6,7] (.tup (.cons (.cst (.int 0)) (.cons (.call (.cst (.fn 36)) (.cons (.var 4) .nil)) (.cons (.attr (.var 4) 24) .nil))))) (.cons (.kg [8] (.call (.cst (.bi 4)) (.cons (.cst (.int 1)) (.cons (.call (.cst (.bi 0)) (.cons (.var 1) .nil)) .nil))) (.cons (.iff (.cmp (.var 2) .eq (.cst (.str [108,105,103,97,116,117,114,101]))) (.cons (.kg [9] (.call (.cst (.bi 4)) (.cons (.bin .add (.sub (.var 1) (.bin .sub (.var 8) (.cst (.int 1)))) (.cst (.int 1))) (.cons (.sub (.var 1) (.var 8)) .nil))) (.cons (.ex (.call (.cst (.fn 38)) (.cons (.sub (.var 0) (.var 9)) (.cons (.var 3) (.cons (.var 5) (.cons (.var 6) .nil)))))) .nil)) .nil) .nil) (.cons (.asg 4 (.sub (.var 0) (.sub (.var 1) (.var 8)))) (.cons (.s_ [5,6,7] (.tup (.cons (.bin .add (.var 5) (.var 6)) (.cons (.call (.cst (.fn 36)) (.cons (.var 4) .nil)) (.cons (.attr (.var 4) 24) .nil))))) .nil)))) (.cons (.iff (.cmp (.var 2) .ne (.cst (.str [109,97,114,107]))) (.cons (.ex (.call (.cst (.fn 39)) (.cons (.var 0) (.cons (.bin .add (.sub (.var 1) (.neg (.cst (.int 1)))) (.cst (.int 1))) (.cons (.var 7) (.cons (.var 3) (.cons (.var 5) (.cons (.var 6) .nil)))))))) .nil) .nil) (.cons (.ret (.bin .add (.var 5) (.var 6))) .nil))))⟩
noncomputable def XF:mO:=⟨[0,1,2],[],9,.cons (.asg 3 (.attr (.var 0) 27)) (.cons (.asg 4 (.attr (.var 3) 28)) (.cons (.asg 5 (.call (.cst (.fn 37)) (.cons (.attr (.var 0) 50) (.cons (.comp [none,none,some 4] (.attr (.sub (.var 2) (.var 1)) 29) [1] (.var 1) .nil .nil) .nil)))) (.cons (.ex (.call (.cst (.fn 17)) (.cons (.var 3) (.cons (.sub (.var 1) (.cst (.int 0))) (.cons (.bin .add (.sub (.var 1) (.neg (.cst (.int 1)))) (.cst (.int 1))) .nil))))) (.cons (.asg 6 (.ite (.cmp (.var 5) .eq (.cst (.str [108,105,103,97,116,117,114,101]))) (.fM (.var 3) 7 .nil) (.cst (.int 0)))) (.cons (.asg 7 (.call (.cst (.fn 40)) (.cons (.var 4) (.cons (.var 1) (.cons (.var 5) (.cons (.var 6) .nil)))))) (.cons (.asg 8 (.sub (.var 4) (.sub (.var 1) (.cst (.int 0))))) (.cons (.iA (.var 8) 29 (.var 2)) (.cons (.iA (.var 8) 30 (.cst (.int 0))) (.cons (.iA (.var 8) 31 (.cmp (.comp [none,none,some 4] (.var 1) [1] (.var 1) (.cons (.attr (.sub (.var 2) (.var 1)) 31) .nil) .nil) .ne (.lst .nil))) (.cons (.iff (.cmp (.var 5) .eq (.cst (.str [108,105,103,97,116,117,114,101]))) (.cons (.iA (.var 8) 24 (.var 6)) (.cons (.iA (.var 8) 25 (.cst (.int 0))) (.cons (.iA (.var 8) 26 (.var 7)) .nil))) .nil) (.cons (.Lv (.attr (.var 3) 28) (.sub (.var 1) (.cst (.int 0))) (.bin .add (.sub (.var 1) (.neg (.cst (.int 1)))) (.cst (.int 1))) (.comp [none,none,some 1,some 4] (.sub (.var 3) (.var 1)) [1] (.call (.cst (.bi 4)) (.cons (.sub (.var 1) (.cst (.int 0))) (.cons (.bin .add (.sub (.var 1) (.neg (.cst (.int 1)))) (.cst (.int 1))) .nil))) (.cons (.or (.cmp (.var 1) .eq (.sub (.var 2) (.cst (.int 0)))) (.cmp (.var 1) .Cf (.var 2))) .nil) .nil)) .nil)))))))))))⟩
noncomputable def XG:mO:=⟨[0,1,2],[],8,.cons (.asg 3 (.attr (.attr (.var 0) 27) 28)) (.cons (.asg 4 (.attr (.sub (.var 3) (.var 2)) 29)) (.cons (.kg [5,6] (.fM (.attr (.var 1) 54) 1 (.cons (.var 4) (.cons (.lst .nil) .nil))) (.cons (.iff (.cmp (.var 5) .eq (.tup .nil)) (.cons (.iA (.sub (.var 3) (.var 2)) 29 (.var 6)) (.cons (.ret (.bin .add (.var 2) (.cst (.int 1)))) .nil)) .nil) (.cons (.asg 7 (.call (.cst (.fn 29)) (.cons (.var 0) (.cons (.var 2) (.cons (.call (.cst (.fn 25)) (.cons (.bin .add (.tup (.cons (.var 4) .nil)) (.var 5)) .nil)) .nil))))) (.cons (.iff (.and (.cmp (.var 7) .Tc (.cst .none)) (.call (.cst (.fn 31)) (.cons (.var 3) (.cons (.var 7) .nil)))) (.cons (.ex (.call (.cst (.fn 41)) (.cons (.var 0) (.cons (.var 7) (.cons (.var 6) .nil))))) (.cons (.ret (.bin .sub (.bin .add (.sub (.var 7) (.neg (.cst (.int 1)))) (.cst (.int 1))) (.call (.cst (.bi 0)) (.cons (.var 5) .nil)))) .nil)) .nil) .nil)))) (.cons (.ret (.neg (.cst (.int 1)))) .nil)))⟩
noncomputable def XH:mO:=⟨[0],[],1,.cons (.iA (.var 0) 32 (.lst (.cons (.dict .nil) .nil))) (.cons (.iA (.var 0) 55 (.lst (.cons (.cst (.int (-1))) .nil))) .nil)⟩
noncomputable def XI:mO:=⟨[0,1,2],[],5,.cons (.asg 3 (.cst (.int 0))) (.cons (.kg [4] (.var 1) (.cons (.iff (.cmp (.var 4) .Cf (.sub (.attr (.var 0) 32) (.var 3))) (.cons (.tZ (.sub (.attr (.var 0) 32) (.var 3)) (.var 4) (.call (.cst (.bi 0)) (.cons (.attr (.var 0) 32) .nil))) (.cons (.ex (.fM (.attr (.var 0) 32) 0 (.cons (.dict .nil) .nil))) (.cons (.ex (.fM (.attr (.var 0) 55) 0 (.cons (.cst (.int (-1))) .nil))) .nil))) .nil) (.cons (.asg 3 (.sub (.sub (.attr (.var 0) 32) (.var 3)) (.var 4))) .nil))) (.cons (.tZ (.attr (.var 0) 55) (.var 3) (.var 2)) .nil))⟩
noncomputable def XJ:mO:=⟨[0],[],1,.cons (.ret (.call (.cst (.bi 0)) (.cons (.attr (.var 0) 32) .nil))) .nil⟩
noncomputable def XK:mO:=⟨[0,1,2],[],3,.cons (.ret (.fM (.sub (.attr (.var 0) 32) (.var 1)) 1 (.cons (.var 2) (.cons (.cst (.int (-1))) .nil)))) .nil⟩
noncomputable def XM:mO:=⟨[0],[],5,.cons (.asg 1 (.call (.cst (.cls 6)) .nil)) (.cons (.kg [2] (.call (.cst (.bi 1)) (.cons (.attr (.var 0) 54) .nil)) (.cons (.kg [3,4] (.call (.cst (.fn 33)) (.cons (.sub (.attr (.var 0) 54) (.var 2)) .nil)) (.cons (.ex (.fM (.var 1) 8 (.cons (.bin .add (.tup (.cons (.var 2) .nil)) (.var 3)) (.cons (.var 4) .nil)))) .nil)) .nil)) (.cons (.ret (.var 1)) .nil))⟩
noncomputable def XN:mO:=⟨[0],[],6,.cons (.asg 1 (.lst .nil)) (.cons (.asg 2 (.lst (.cons (.tup (.cons (.cst (.int 0)) (.cons (.tup .nil) .nil))) .nil))) (.cons (.ET (.var 2) (.cons (.s_ [3,4] (.fM (.var 2) 3 .nil)) (.cons (.iff (.cmp (.sub (.attr (.var 0) 55) (.var 3)) .ne (.cst (.int (-1)))) (.cons (.ex (.fM (.var 1) 0 (.cons (.tup (.cons (.var 4) (.cons (.sub (.attr (.var 0) 55) (.var 3)) .nil))) .nil))) .nil) .nil) (.cons (.kg [5] (.sub (.attr (.var 0) 32) (.var 3)) (.cons (.ex (.fM (.var 2) 0 (.cons (.tup (.cons (.sub (.sub (.attr (.var 0) 32) (.var 3)) (.var 5)) (.cons (.bin .add (.var 4) (.tup (.cons (.var 5) .nil))) .nil))) .nil))) .nil)) .nil)))) (.cons (.ret (.call (.cst (.bi 1)) (.cons (.var 1) .nil))) .nil)))⟩
noncomputable def XO:mO:=⟨[0],[],4,.cons (.asg 1 (.dict .nil)) (.cons (.kg [2,3] (.ER (.call (.cst (.fn 48)) (.cons (.var 0) .nil)) (.tup (.cons (.neg (.call (.cst (.bi 0)) (.cons (.sub (.var 0) (.cst (.int 0))) .nil))) (.cons (.sub (.var 0) (.cst (.int 0))) .nil)))) (.cons (.ex (.fM (.fM (.var 1) 2 (.cons (.sub (.var 2) (.cst (.int 0))) (.cons (.lst .nil) .nil))) 0 (.cons (.tup (.cons (.tY (.var 2) (.cst (.int 1)) (.cst .none)) (.cons (.var 3) .nil))) .nil))) .nil)) (.cons (.ret (.call (.cst (.cls 5)) (.cons (.var 1) .nil))) .nil))⟩
noncomputable def XP:mO:=⟨[0],[],4,.cons (.asg 1 (.dict .nil)) (.cons (.kg [2,3] (.call (.cst (.fn 48)) (.cons (.var 0) .nil)) (.cons (.ex (.fM (.fM (.var 1) 2 (.cons (.var 3) (.cons (.lst .nil) .nil))) 0 (.cons (.var 2) .nil))) .nil)) (.cons (.ret (.var 1)) .nil))⟩
noncomputable def XQ:mO:=⟨[0,1,2],[],6,.cons (.asg 3 (.cst (.int 0))) (.cons (.asg 4 (.tup (.cons (.var 2) (.cons (.cst (.int (-1))) .nil)))) (.cons (.kg [5] (.call (.cst (.bi 4)) (.cons (.var 2) (.cons (.call (.cst (.bi 0)) (.cons (.var 1) .nil)) .nil))) (.cons (.asg 3 (.fM (.var 0) 10 (.cons (.var 3) (.cons (.sub (.var 1) (.var 5)) .nil)))) (.cons (.iff (.cmp (.var 3) .eq (.cst (.int (-1)))) (.cons .brk .nil) .nil) (.cons (.iff (.cmp (.sub (.attr (.var 0) 55) (.var 3)) .ne (.cst (.int (-1)))) (.cons (.asg 4 (.tup (.cons (.bin .add (.var 5) (.cst (.int 1))) (.cons (.sub (.attr (.var 0) 55) (.var 3)) .nil)))) .nil) .nil) .nil)))) (.cons (.ret (.var 4)) .nil)))⟩
noncomputable def XR:mO:=⟨[0,1],[],7,.cons (.asg 2 (.lst .nil)) (.cons (.asg 3 (.cst (.int 0))) (.cons (.ET (.cmp (.var 3) .lt (.call (.cst (.bi 0)) (.cons (.var 1) .nil))) (.cons (.s_ [4,5] (.tup (.cons (.var 3) (.cons (.cst (.int (-1))) .nil)))) (.cons (.kg [6] (.var 0) (.cons (.iff (.cmp (.var 5) .eq (.cst (.int (-1)))) (.cons (.s_ [4,5] (.call (.cst (.fn 51)) (.cons (.var 6) (.cons (.var 1) (.cons (.var 3) .nil))))) .nil) .nil) .nil)) (.cons (.iff (.cmp (.var 5) .eq (.cst (.int (-1)))) (.cons (.s_ [4,5] (.tup (.cons (.bin .add (.var 3) (.cst (.int 1))) (.cons (.sub (.var 1) (.var 3)) .nil)))) .nil) .nil) (.cons (.ex (.fM (.var 2) 0 (.cons (.var 5) .nil))) (.cons (.asg 3 (.var 4)) .nil)))))) (.cons (.ret (.var 2)) .nil)))⟩
noncomputable def XS:mO:=⟨[0,1],[],2,.cons (.ret (.call (.cst (.fn 52)) (.cons (.lst (.cons (.var 0) .nil)) (.cons (.var 1) .nil)))) .nil⟩
noncomputable def XT:mO:=⟨[0,1],[],2,.cons (.iA (.var 0) 56 (.var 1)) (.cons (.iA (.var 0) 57 (.lst .nil)) .nil)⟩
noncomputable def XU:mO:=⟨[0],[],3,.cons (.asg 1 (.cst (.int 0))) (.cons (.kg [2] (.attr (.var 0) 57) (.cons (.asg 1 (.fM (.attr (.var 0) 56) 10 (.cons (.var 1) (.cons (.var 2) .nil)))) (.cons (.iff (.cmp (.var 1) .eq (.cst (.int (-1)))) (.cons (.ret (.cst (.bool false))) .nil) .nil) .nil))) (.cons (.ret (.cmp (.sub (.attr (.attr (.var 0) 56) 32) (.var 1)) .ne (.dict .nil))) .nil))⟩
noncomputable def XW:mO:=⟨[0],[],3,.cons (.s_ [1,2] (.call (.cst (.fn 51)) (.cons (.attr (.var 0) 56) (.cons (.attr (.var 0) 57) (.cons (.cst (.int 0)) .nil))))) (.cons (.iff (.cmp (.var 2) .eq (.cst (.int (-1)))) (.cons (.s_ [1,2] (.tup (.cons (.cst (.int 1)) (.cons (.sub (.attr (.var 0) 57) (.cst (.int 0))) .nil)))) .nil) .nil) (.cons (.iA (.var 0) 57 (.tY (.attr (.var 0) 57) (.var 1) (.cst .none))) (.cons (.ret (.var 2)) .nil)))⟩
noncomputable def XX:mO:=⟨[0,1],[],3,.cons (.ex (.fM (.attr (.var 0) 57) 0 (.cons (.var 1) .nil))) (.cons (.asg 2 (.lst .nil)) (.cons (.ET (.and (.attr (.var 0) 57) (.not (.fM (.var 0) 11 .nil))) (.cons (.ex (.fM (.var 2) 0 (.cons (.fM (.var 0) 12 .nil) .nil))) .nil)) (.cons (.ret (.var 2)) .nil)))⟩
noncomputable def XY:mO:=⟨[0],[],2,.cons (.asg 1 (.lst .nil)) (.cons (.ET (.attr (.var 0) 57) (.cons (.ex (.fM (.var 1) 0 (.cons (.fM (.var 0) 12 .nil) .nil))) .nil)) (.cons (.ret (.var 1)) .nil))⟩
noncomputable def XZ:mO:=⟨[0],[],6,.cons (.asg 1 (.bin .mul (.lst (.cons (.cst (.int 0)) .nil)) (.fM (.var 0) 9 .nil))) (.cons (.asg 2 (.dict .nil)) (.cons (.kg [3] (.call (.cst (.bi 4)) (.cons (.bin .sub (.fM (.var 0) 9 .nil) (.cst (.int 1))) (.cons (.neg (.cst (.int 1))) (.cons (.neg (.cst (.int 1))) .nil)))) (.cons (.asg 4 (.call (.cst (.bi 5)) (.cons (.comp [none,none,some 1,some 3,some 0] (.tup (.cons (.var 1) (.cons (.sub (.var 2) (.sub (.sub (.attr (.var 4) 32) (.var 3)) (.var 1))) .nil))) [1] (.call (.cst (.bi 1)) (.cons (.sub (.attr (.var 0) 32) (.var 3)) .nil)) .nil .nil) .nil))) (.cons (.asg 5 (.tup (.cons (.sub (.attr (.var 0) 55) (.var 3)) (.cons (.var 4) .nil)))) (.cons (.iff (.cmp (.var 5) .Cf (.var 2)) (.cons (.tZ (.var 2) (.var 5) (.var 3)) .nil) .nil) (.cons (.tZ (.var 1) (.var 3) (.sub (.var 2) (.var 5))) .nil))))) (.cons (.ret (.call (.cst (.fn 60)) (.cons (.var 0) (.cons (.var 1) .nil)))) .nil)))⟩
noncomputable def X0:mO:=⟨[0,1],[],9,.cons (.asg 2 (.lst (.cons (.sub (.var 1) (.cst (.int 0))) .nil))) (.cons (.asg 3 (.dict (.cons (.sub (.var 1) (.cst (.int 0))) (.cons (.cst (.int 0)) .nil)))) (.cons (.asg 4 (.call (.cst (.cls 6)) .nil)) (.cons (.ES (.var 4) 32 (.var 4) 55 (.tup (.cons (.lst .nil) (.cons (.lst .nil) .nil)))) (.cons (.ET (.cmp (.call (.cst (.bi 0)) (.cons (.attr (.var 4) 32) .nil)) .lt (.call (.cst (.bi 0)) (.cons (.var 2) .nil))) (.cons (.asg 5 (.sub (.var 2) (.call (.cst (.bi 0)) (.cons (.attr (.var 4) 32) .nil)))) (.cons (.asg 6 (.dict .nil)) (.cons (.kg [7] (.call (.cst (.bi 1)) (.cons (.sub (.attr (.var 0) 32) (.var 5)) .nil)) (.cons (.asg 8 (.sub (.var 1) (.sub (.sub (.attr (.var 0) 32) (.var 5)) (.var 7)))) (.cons (.iff (.cmp (.var 8) .Cf (.var 3)) (.cons (.tZ (.var 3) (.var 8) (.call (.cst (.bi 0)) (.cons (.var 2) .nil))) (.cons (.ex (.fM (.var 2) 0 (.cons (.var 8) .nil))) .nil)) .nil) (.cons (.tZ (.var 6) (.var 7) (.sub (.var 3) (.var 8))) .nil)))) (.cons (.ex (.fM (.attr (.var 4) 32) 0 (.cons (.var 6) .nil))) (.cons (.ex (.fM (.attr (.var 4) 55) 0 (.cons (.sub (.attr (.var 0) 55) (.var 5)) .nil))) .nil)))))) (.cons (.ret (.var 4)) .nil)))))⟩
noncomputable def X1:mO:=⟨[0,1,2,3],[],4,.cons (.iA (.var 0) 33 (.var 1)) (.cons (.iA (.var 0) 58 (.var 2)) (.cons (.iA (.var 0) 55 (.var 3)) .nil))⟩
noncomputable def X2:mO:=⟨[0,1,2],[],3,.cons (.ret (.sub (.sub (.attr (.var 0) 58) (.var 1)) (.fM (.attr (.var 0) 33) 4 (.cons (.var 2) .nil)))) .nil⟩
noncomputable def X3:mO:=⟨[0],[],4,.cons (.asg 1 (.dict .nil)) (.cons (.kg [2] (.attr (.var 0) 32) (.cons (.kg [3] (.var 2) (.cons (.tZ (.var 1) (.var 3) (.cst (.bool true))) .nil)) .nil)) (.cons (.ret (.call (.cst (.bi 6)) (.cons (.comp [none,none,some 0] (.tup (.cons (.var 1) (.cons (.call (.cst (.bi 5)) (.cons (.comp [none,none,some 1,some 2] (.fM (.var 3) 10 (.cons (.var 1) (.cons (.var 2) .nil))) [1] (.call (.cst (.bi 4)) (.cons (.fM (.var 2) 9 .nil) .nil)) .nil .nil) .nil)) .nil))) [1] (.call (.cst (.bi 1)) (.cons (.var 1) .nil)) .nil .nil) .nil))) .nil))⟩
noncomputable def X4:mO:=⟨[0],[],8,.cons (.asg 1 (.call (.cst (.fn 63)) (.cons (.var 0) .nil))) (.cons (.asg 2 (.dict .nil)) (.cons (.asg 3 (.dict .nil)) (.cons (.asg 4 (.lst (.cons (.call (.cst (.bi 5)) (.cons (.bin .mul (.lst (.cons (.cst (.int (-1))) .nil)) (.fM (.var 0) 9 .nil)) .nil)) .nil))) (.cons (.kg [5] (.var 1) (.cons (.asg 6 (.sub (.var 1) (.var 5))) (.cons (.iff (.cmp (.var 6) .Cf (.var 2)) (.cons (.tZ (.var 2) (.var 6) (.call (.cst (.bi 0)) (.cons (.var 4) .nil))) (.cons (.ex (.fM (.var 4) 0 (.cons (.var 6) .nil))) .nil)) .nil) (.cons (.tZ (.var 3) (.var 5) (.sub (.var 2) (.var 6))) .nil)))) (.cons (.asg 7 (.comp [none,none,some 4] (.comp [none,none,some 1] (.sub (.var 1) (.var 2)) [1] (.var 2) .nil .nil) [1] (.call (.cst (.bi 4)) (.cons (.fM (.var 0) 9 .nil) .nil)) .nil .nil)) (.cons (.ret (.call (.cst (.cls 8)) (.cons (.call (.cst (.cls 0)) (.cons (.var 3) .nil)) (.cons (.var 7) (.cons (.call (.cst (.bi 10)) (.cons (.attr (.var 0) 55) .nil)) .nil))))) .nil))))))⟩
noncomputable def X5:mO:=⟨[0,1],[],8,.cons (.asg 2 (.lst .nil)) (.cons (.asg 3 (.cst (.int 0))) (.cons (.ET (.cmp (.var 3) .lt (.call (.cst (.bi 0)) (.cons (.var 1) .nil))) (.cons (.s_ [4,5,6] (.tup (.cons (.cst (.int 0)) (.cons (.bin .add (.var 3) (.cst (.int 1))) (.cons (.sub (.var 1) (.var 3)) .nil))))) (.cons (.asg 7 (.var 3)) (.cons (.ET (.cmp (.var 7) .lt (.call (.cst (.bi 0)) (.cons (.var 1) .nil))) (.cons (.asg 4 (.fM (.var 0) 10 (.cons (.var 4) (.cons (.sub (.var 1) (.var 7)) .nil)))) (.cons (.iff (.cmp (.var 4) .eq (.cst (.int (-1)))) (.cons .brk .nil) .nil) (.cons (.asg 7 (.bin .add (.var 7) (.cst (.int 1)))) (.cons (.iff (.cmp (.sub (.attr (.var 0) 55) (.var 4)) .ne (.cst (.int (-1)))) (.cons (.s_ [5,6] (.tup (.cons (.var 7) (.cons (.sub (.attr (.var 0) 55) (.var 4)) .nil)))) .nil) .nil) .nil))))) (.cons (.ex (.fM (.var 2) 0 (.cons (.var 6) .nil))) (.cons (.asg 3 (.var 5)) .nil)))))) (.cons (.ret (.var 2)) .nil)))⟩
noncomputable def X6:mO:=⟨[0,1,2,3,4,5],[.none,.none],6,.cons (.iA (.var 0) 33 (.var 1)) (.cons (.iA (.var 0) 59 (.var 2)) (.cons (.iA (.var 0) 54 (.var 3)) (.cons (.iA (.var 0) 60 (.ite (.cmp (.var 4) .Sl (.cst .none)) (.dict .nil) (.var 4))) (.cons (.iA (.var 0) 61 (.ite (.cmp (.var 5) .Sl (.cst .none)) (.dict .nil) (.var 5))) .nil))))⟩
noncomputable def X7:mO:=⟨[0,1],[],3,.cons (.asg 2 (.fM (.attr (.var 0) 33) 4 (.cons (.var 1) .nil))) (.cons (.ret (.ite (.EP (.cst (.int 1)) .le (.var 2) .le (.cst (.int 4))) (.var 2) (.cst (.int 0)))) .nil)⟩
noncomputable def X8:mO:=⟨[],[],0,.cons (.ret (.call (.cst (.cls 9)) (.cons (.call (.cst (.cls 0)) (.cons (.dict .nil) .nil)) (.cons (.call (.cst (.cls 0)) (.cons (.dict .nil) .nil)) (.cons (.lst .nil) .nil))))) .nil⟩
noncomputable def X9:mO:=⟨[0,1],[],4,.cons (.iff (.cmp (.sub (.var 0) (.cst (.int 2))) .eq (.cst (.int 0))) (.cons (.asg 2 (.sub (.sub (.var 0) (.cst (.int 0))) (.bin .mod (.sub (.var 0) (.cst (.int 1))) (.call (.cst (.bi 0)) (.cons (.sub (.var 0) (.cst (.int 0))) .nil))))) (.cons (.tZ (.var 0) (.cst (.int 1)) (.bin .add (.sub (.var 0) (.cst (.int 1))) (.cst (.int 1)))) (.cons (.tZ (.var 0) (.cst (.int 2)) (.bin .add (.bin .add (.bin .add (.bin .mul (.cst (.int 2)) (.call (.cst (.bi 8)) (.cons (.var 2) .nil))) (.ite (.cmp (.var 2) .lt (.cst (.int 0))) (.cst (.int 1)) (.cst (.int 0)))) (.bin .mul (.bin .mul (.cst (.int 7919)) (.sub (.var 0) (.cst (.int 1)))) (.sub (.var 0) (.cst (.int 1))))) (.cst (.int 1)))) .nil))) .nil) (.cons (.asg 3 (.bin .mod (.sub (.var 0) (.cst (.int 2))) (.var 1))) (.cons (.tZ (.var 0) (.cst (.int 2)) (.bin .fdiv (.sub (.var 0) (.cst (.int 2))) (.var 1))) (.cons (.ret (.var 3)) .nil)))⟩
noncomputable def X':mO:=⟨[0],[],5,.cons (.asg 1 (.dict .nil)) (.cons (.asg 2 (.tup .nil)) (.cons (.kg [3] (.call (.cst (.bi 4)) (.cons (.call (.cst (.fn 72)) (.cons (.var 0) (.cons (.cst (.int 6)) .nil))) .nil)) (.cons (.asg 4 (.call (.cst (.bi 5)) (.cons (.comp [none,none,some 0] (.bin .add (.cst (.int 1)) (.call (.cst (.fn 72)) (.cons (.var 2) (.cons (.cst (.int 5)) .nil)))) [1] (.call (.cst (.bi 4)) (.cons (.bin .add (.cst (.int 1)) (.call (.cst (.fn 72)) (.cons (.var 0) (.cons (.cst (.int 4)) .nil)))) .nil)) .nil .nil) .nil))) (.cons (.iff (.and (.cmp (.var 2) .ne (.tup .nil)) (.cmp (.call (.cst (.fn 72)) (.cons (.var 0) (.cons (.cst (.int 3)) .nil))) .eq (.cst (.int 0)))) (.cons (.asg 4 (.bin .add (.tY (.var 2) (.cst .none) (.cst (.int 3))) (.tY (.var 4) (.cst .none) (.cst (.int 1))))) .nil) .nil) (.cons (.asg 2 (.var 4)) (.cons (.ex (.fM (.fM (.var 1) 2 (.cons (.sub (.var 4) (.cst (.int 0))) (.cons (.lst .nil) .nil))) 0 (.cons (.tup (.cons (.tY (.var 4) (.cst (.int 1)) (.cst .none)) (.cons (.bin .add (.cst (.int 10)) (.call (.cst (.fn 72)) (.cons (.var 0) (.cons (.cst (.int 3)) .nil)))) .nil))) .nil))) .nil))))) (.cons (.ret (.var 1)) .nil)))⟩
noncomputable def X_:mO:=⟨[0],[],6,.cons (.asg 1 (.lst .nil)) (.cons (.kg [2] (.var 0) (.cons (.asg 3 (.lst .nil)) (.cons (.kg [4,5] (.sub (.var 0) (.var 2)) (.cons (.iff (.not (.call (.cst (.bi 7)) (.cons (.comp [none,none,some 4] (.cmp (.tY (.var 2) (.cst .none) (.call (.cst (.bi 0)) (.cons (.var 1) .nil))) .eq (.var 1)) [1] (.var 3) .nil .nil) .nil))) (.cons (.ex (.fM (.var 3) 0 (.cons (.var 4) .nil))) (.cons (.ex (.fM (.var 1) 0 (.cons (.tup (.cons (.bin .add (.tup (.cons (.var 2) .nil)) (.var 4)) (.cons (.var 5) .nil))) .nil))) .nil)) .nil) .nil)) .nil))) (.cons (.ret (.call (.cst (.bi 1)) (.cons (.var 1) .nil))) .nil))⟩
noncomputable def Ya:mO:=⟨[0,1],[],9,.cons (.asg 2 (.lst .nil)) (.cons (.asg 3 (.cst (.int 0))) (.cons (.ET (.cmp (.var 3) .lt (.call (.cst (.bi 0)) (.cons (.var 1) .nil))) (.cons (.s_ [4,5] (.tup (.cons (.bin .add (.var 3) (.cst (.int 1))) (.cons (.sub (.var 1) (.var 3)) .nil)))) (.cons (.kg [6] (.rev (.var 0)) (.cons (.kg [7,8] (.rev (.fM (.var 6) 1 (.cons (.sub (.var 1) (.var 3)) (.cons (.lst .nil) .nil)))) (.cons (.iff (.cmp (.tY (.var 1) (.bin .add (.var 3) (.cst (.int 1))) (.bin .add (.bin .add (.var 3) (.cst (.int 1))) (.call (.cst (.bi 0)) (.cons (.var 7) .nil)))) .eq (.call (.cst (.bi 10)) (.cons (.var 7) .nil))) (.cons (.s_ [4,5] (.tup (.cons (.bin .add (.bin .add (.var 3) (.cst (.int 1))) (.call (.cst (.bi 0)) (.cons (.var 7) .nil))) (.cons (.var 8) .nil)))) .nil) .nil) .nil)) .nil)) (.cons (.ex (.fM (.var 2) 0 (.cons (.var 5) .nil))) (.cons (.asg 3 (.var 4)) .nil))))) (.cons (.ret (.var 2)) .nil)))⟩
noncomputable def Yb:mO:=⟨[0,1],[],8,.cons (.asg 2 (.call (.cst (.cls 2)) (.cons (.comp [none,none,some 1] (.call (.cst (.cls 1)) (.cons (.cst (.int 0)) (.cons (.sub (.var 2) (.var 1)) (.cons (.var 1) .nil)))) [1] (.call (.cst (.bi 4)) (.cons (.call (.cst (.bi 0)) (.cons (.var 1) .nil)) .nil)) .nil .nil) .nil))) (.cons (.kg [3] (.attr (.var 2) 28) (.cons (.iA (.var 3) 36 (.cst (.int 1))) .nil)) (.cons (.asg 4 (.call (.cst (.cls 3)) (.cons (.cst (.str [108,105,103,97,116,117,114,101])) (.cons (.cst (.int 0)) (.cons (.cst (.int 0)) (.cons (.lst (.cons (.var 0) .nil)) .nil)))))) (.cons (.asg 5 (.call (.cst (.cls 4)) (.cons (.var 2) (.cons (.call (.cst (.fn 71)) .nil) (.cons (.lst (.cons (.var 4) .nil)) (.cons (.var 4) (.cons (.cst (.int 1)) .nil))))))) (.cons (.asg 6 (.cst (.int 0))) (.cons (.ET (.cmp (.var 6) .lt (.call (.cst (.bi 0)) (.cons (.attr (.var 2) 28) .nil))) (.cons (.asg 7 (.call (.cst (.fn 42)) (.cons (.var 5) (.cons (.var 0) (.cons (.var 6) .nil))))) (.cons (.asg 6 (.ite (.cmp (.var 7) .ge (.cst (.int 0))) (.var 7) (.bin .add (.var 6) (.cst (.int 1))))) .nil))) (.cons (.ret (.fM (.var 2) 6 .nil)) .nil))))))⟩
noncomputable def Yc:mO:=⟨[0,1,2],[],7,.cons (.asg 3 (.call (.cst (.cls 7)) (.cons (.var 0) .nil))) (.cons (.asg 4 (.lst .nil)) (.cons (.kg [5] (.var 2) (.cons (.asg 4 (.bin .add (.var 4) (.fM (.var 3) 13 (.cons (.var 5) .nil)))) (.cons (.asg 6 (.call (.cst (.bi 5)) (.cons (.attr (.var 3) 57) .nil))) (.cons (.iff (.and (.cmp (.var 6) .ne (.tup .nil)) (.not (.call (.cst (.bi 7)) (.cons (.comp [none,none,none,some 6] (.and (.cmp (.call (.cst (.bi 0)) (.cons (.var 1) .nil)) .gt (.call (.cst (.bi 0)) (.cons (.var 3) .nil))) (.cmp (.tY (.var 1) (.cst .none) (.call (.cst (.bi 0)) (.cons (.var 3) .nil))) .eq (.var 3))) [1,2] (.var 1) .nil .nil) .nil)))) (.cons (.ret (.cst .none)) .nil) .nil) .nil)))) (.cons (.ret (.bin .add (.var 4) (.fM (.var 3) 14 .nil))) .nil)))⟩
noncomputable def Yd:mO:=⟨[0,1],[],2,.cons (.ret (.call (.cst (.bi 5)) (.cons (.comp [none,none,none,some 1] (.tup (.cons (.tY (.var 1) (.call (.cst (.bi 0)) (.cons (.var 3) .nil)) (.cst .none)) (.cons (.var 2) .nil))) [1,2] (.var 0) (.cons (.cmp (.tY (.var 1) (.cst .none) (.call (.cst (.bi 0)) (.cons (.var 3) .nil))) .eq (.var 3)) .nil) .nil) .nil))) .nil⟩
noncomputable def Ye:mO:=⟨[0],[],8,.cons (.asg 1 (.bin .add (.lst (.cons (.tup .nil) .nil)) (.comp [none,none,none,none] (.tY (.var 1) (.cst .none) (.bin .add (.var 3) (.cst (.int 1)))) [1,2] (.var 0) .nil (.cons [3] (.call (.cst (.bi 4)) (.cons (.call (.cst (.bi 0)) (.cons (.var 1) .nil)) .nil)) .nil .nil)))) (.cons (.asg 2 (.lst .nil)) (.cons (.kg [3] (.var 1) (.cons (.asg 4 (.call (.cst (.fn 78)) (.cons (.var 0) (.cons (.var 3) .nil)))) (.cons (.iff (.cmp (.var 4) .Cf (.var 2)) (.cons (.ex (.fM (.var 2) 0 (.cons (.var 4) .nil))) .nil) .nil) .nil))) (.cons (.asg 5 (.lst (.cons (.call (.cst (.bi 5)) (.cons (.comp [none,none] (.tup .nil) [1] (.var 2) .nil .nil) .nil)) .nil))) (.cons (.kg [6] (.call (.cst (.bi 4)) (.cons (.cst (.int 1)) (.cons (.cst (.int 6)) .nil))) (.cons (.asg 7 (.call (.cst (.bi 5)) (.cons (.comp [none,none,some 6] (.call (.cst (.fn 78)) (.cons (.var 1) (.cons (.tup (.cons (.var 2) .nil)) .nil))) [1] (.var 2) .nil .nil) .nil))) (.cons (.iff (.cmp (.var 7) .Cf (.var 5)) (.cons (.ex (.fM (.var 5) 0 (.cons (.var 7) .nil))) .nil) .nil) .nil))) (.cons (.ret (.tup (.cons (.call (.cst (.bi 0)) (.cons (.var 2) .nil)) (.cons (.call (.cst (.bi 0)) (.cons (.var 5) .nil)) .nil)))) .nil)))))⟩
noncomputable def Yf:mO:=⟨[0,1],[],7,.cons (.asg 2 (.cst (.int 1))) (.cons (.kg [3] (.call (.cst (.bi 4)) (.cons (.call (.cst (.bi 0)) (.cons (.var 0) .nil)) .nil)) (.cons (.kg [4] (.call (.cst (.bi 1)) (.cons (.sub (.var 0) (.var 3)) .nil)) (.cons (.iff (.or (.cmp (.var 3) .ge (.var 2)) (.cmp (.sub (.sub (.var 0) (.var 3)) (.var 4)) .gt (.var 2))) (.cons (.ret (.cst (.bool false))) .nil) .nil) (.cons (.asg 2 (.call (.cst (.bi 3)) (.cons (.var 2) (.cons (.bin .add (.sub (.sub (.var 0) (.var 3)) (.var 4)) (.cst (.int 1))) .nil)))) .nil))) .nil)) (.cons (.asg 5 (.cst (.int 0))) (.cons (.kg [6] (.var 1) (.cons (.iff (.cmp (.var 6) .gt (.bin .add (.var 5) (.cst (.int 1)))) (.cons (.ret (.cst (.bool false))) .nil) .nil) (.cons (.asg 5 (.call (.cst (.bi 3)) (.cons (.var 5) (.cons (.var 6) .nil)))) .nil))) (.cons (.ret (.cmp (.var 2) .eq (.call (.cst (.bi 0)) (.cons (.var 0) .nil)))) .nil))))⟩
noncomputable def Yg:mO:=⟨[0],[],12,.cons (.asg 1 (.lst (.cons (.bin .add (.comp [none,none] (.call (.cst (.bi 9)) (.cons (.var 1) .nil)) [1] (.tY (.var 0) (.cst .none) (.cst (.int 40))) .nil .nil) (.lst (.cons (.cst (.int 26)) (.cons (.cst (.int 17)) .nil)))) (.cons (.cst (.int 0)) (.cons (.cst (.int 0)) .nil))))) (.cons (.asg 2 (.lst (.cons (.call (.cst (.fn 73)) (.cons (.var 1) .nil)) (.cons (.call (.cst (.fn 73)) (.cons (.var 1) .nil)) .nil)))) (.cons (.asg 3 (.comp [none,none] (.call (.cst (.fn 47)) (.cons (.call (.cst (.cls 5)) (.cons (.var 1) .nil)) .nil)) [1] (.var 2) .nil .nil)) (.cons (.asg 4 (.call (.cst (.cls 5)) (.cons (.sub (.var 2) (.cst (.int 0))) .nil))) (.cons (.asg 5 (.call (.cst (.fn 74)) (.cons (.sub (.var 2) (.cst (.int 0))) .nil))) (.cons (.asg 6 (.call (.cst (.fn 59)) (.cons (.sub (.var 3) (.cst (.int 0))) .nil))) (.cons (.asg 7 (.call (.cst (.fn 64)) (.cons (.var 6) .nil))) (.cons (.iff (.or (.cmp (.call (.cst (.fn 48)) (.cons (.sub (.var 3) (.cst (.int 0))) .nil)) .ne (.var 5)) (.or (.cmp (.call (.cst (.fn 48)) (.cons (.var 6) .nil)) .ne (.var 5)) (.cmp (.fM (.call (.cst (.fn 49)) (.cons (.var 6) .nil)) 5 .nil) .ne (.fM (.var 4) 5 .nil)))) (.cons (.ret (.cst (.bool false))) .nil) .nil) (.cons (.iff (.or (.cmp (.tup (.cons (.fM (.var 6) 9 .nil) (.cons (.call (.cst (.bi 0)) (.cons (.sub (.attr (.var 7) 58) (.cst (.int 0))) .nil)) .nil))) .ne (.call (.cst (.fn 79)) (.cons (.var 5) .nil))) (.cmp (.call (.cst (.bi 0)) (.cons (.attr (.var 7) 58) .nil)) .ne (.fM (.var 6) 9 .nil))) (.cons (.ret (.cst (.bool false))) .nil) .nil) (.cons (.asg 8 (.call (.cst (.fn 50)) (.cons (.var 6) .nil))) (.cons (.iff (.cmp (.var 8) .ne (.call (.cst (.bi 6)) (.cons (.comp [none,none,none,some 5] (.tup (.cons (.var 2) (.cons (.comp [none,none,none,some 2] (.var 1) [1,2] (.var 3) (.cons (.cmp (.var 2) .eq (.var 3)) .nil) .nil) .nil))) [1,2] (.var 5) .nil .nil) .nil))) (.cons (.ret (.cst (.bool false))) .nil) .nil) (.cons (.iff (.not (.call (.cst (.fn 80)) (.cons (.attr (.var 6) 32) (.cons (.comp [none,none,some 7] (.fM (.attr (.var 2) 33) 4 (.cons (.var 1) .nil)) [1] (.call (.cst (.bi 4)) (.cons (.cst (.int 1)) (.cons (.cst (.int 6)) .nil))) .nil .nil) .nil)))) (.cons (.ret (.cst (.bool false))) .nil) .nil) (.cons (.kg [9] (.call (.cst (.bi 4)) (.cons (.cst (.int 3)) .nil)) (.cons (.asg 10 (.comp [none,none,some 1] (.bin .add (.cst (.int 1)) (.call (.cst (.fn 72)) (.cons (.var 2) (.cons (.cst (.int 5)) .nil)))) [1] (.call (.cst (.bi 4)) (.cons (.call (.cst (.fn 72)) (.cons (.var 1) (.cons (.cst (.int 8)) .nil))) .nil)) .nil .nil)) (.cons (.iff (.cmp (.var 5) .ne (.lst .nil)) (.cons (.asg 10 (.bin .add (.bin .add (.var 10) (.call (.cst (.bi 10)) (.cons (.sub (.sub (.var 5) (.call (.cst (.fn 72)) (.cons (.var 1) (.cons (.call (.cst (.bi 0)) (.cons (.var 5) .nil)) .nil)))) (.cst (.int 0))) .nil))) (.tY (.var 10) (.cst .none) (.cst (.int 1))))) .nil) .nil) (.cons (.asg 11 (.call (.cst (.fn 75)) (.cons (.tY (.var 2) (.cst .none) (.cst (.int 1))) (.cons (.var 10) .nil)))) (.cons (.iff (.or (.cmp (.call (.cst (.fn 53)) (.cons (.sub (.var 3) (.cst (.int 0))) (.cons (.var 10) .nil))) .ne (.var 11)) (.or (.cmp (.call (.cst (.fn 65)) (.cons (.var 7) (.cons (.var 10) .nil))) .ne (.var 11)) (.cmp (.call (.cst (.fn 77)) (.cons (.var 6) (.cons (.var 5) (.cons (.var 10) .nil)))) .ne (.var 11)))) (.cons (.ret (.cst (.bool false))) .nil) .nil) (.cons (.iff (.and (.cmp (.var 9) .eq (.cst (.int 0))) (.cmp (.call (.cst (.fn 76)) (.cons (.var 4) (.cons (.var 10) .nil))) .ne (.var 11))) (.cons (.ret (.cst (.bool false))) .nil) .nil) (.cons (.iff (.cmp (.call (.cst (.fn 52)) (.cons (.var 3) (.cons (.var 10) .nil))) .ne (.call (.cst (.fn 75)) (.cons (.var 2) (.cons (.var 10) .nil)))) (.cons (.ret (.cst (.bool false))) .nil) .nil) .nil))))))) (.cons (.ret (.cst (.bool true))) .nil)))))))))))))⟩
noncomputable def Wa:List mO:=[noFn,c1,c2,noFn,noFn,c5,c6,noFn,noFn,c9,Tj,noFn,noFn,Xi,noFn,Xj,Xk,Xl,Xm,noFn,Xn,noFn,Xo,Xp,Xq,Xr,Vr,Xs,Xt,Xu,Xv,Xw,Xx,Xy,Xz,XA,XB,XC,noFn,XD,XE,XF,XG,XH,XI,XJ,XK,XM,XN,XO,XP,XQ,XR,XS,XT,XU,XW,XX,XY,XZ,X0,X1,X2,X3,X4,X5,X6,X7,noFn,noFn,noFn,X8,X9,X',X_,Ya,Yb,Yc,Yd,Ye,Yf,Yg]
noncomputable def Wb:List Qp:=[⟨[(4,2),(20,3),(19,4),(5,5)],1⟩,⟨[(21,7),(5,8)],6⟩,⟨[(6,10),(22,11),(5,12),(7,13),(23,14)],9⟩,⟨[(5,19)],18⟩,⟨[],20⟩,⟨[(5,35)],34⟩,⟨[(8,44),(9,45),(10,46)],43⟩,⟨[(11,55),(12,56),(13,57),(14,58)],54⟩,⟨[(10,62)],61⟩,⟨[(15,67),(16,68),(17,69),(5,70)],66⟩]
noncomputable def PG:UN:=⟨Wa,Wb⟩
variable {b:AS} {aw:Bool} {bK:Bool->AS->Prop}
theorem tb (h:∃t,nN b (.bool aw) t/\bK t b):bK aw b:=by refine eS h λt h q=>?_;rcases h with ⟨⟩;exact q
theorem AS.le_refl (a:AS):eD a a:=λ_ _ h=>h
open Mine.AS renaming le_refl->ed
variable {q ax:AS}
theorem AS.le_trans (h:eD b q) (a:eD q ax):eD b ax:=λx o e=>a x o (h x o e)
open Mine.AS renaming le_trans->b4
theorem AS.fg (b:AS) (a:Nat) (o:AO):b.set a o a=some o:=by simp [u_]
open Mine.AS renaming fg->gX
variable {ay:AO}
theorem AS.fG (h:d≠a):b.set a ay d=b d:=by simp [u_,h]
open Mine.AS renaming fG->gw
theorem AS.ij (h:b a=none):eD b (b.set a ay):=λx d e=>by
 by_cases c:x=a
 .subst c;rw [h] at e;contradiction
 .rw [gw c];exact e
open Mine.AS renaming ij->mV
theorem AS.fA (c:eD b q) (h:q a=none):b a=none:=by
 induction e:b a with
 |none=>rfl
 |some o=>rw [c a o e] at h;contradiction
open Mine.AS renaming fA->jE
theorem AS.Hb (d:eD b q) (h:q.free a):b.free a:=
 ⟨jE d h.1,λg c f e=>h.2 g c f (d _ _ e)⟩
theorem AS.set_set (d:AS) (a:Nat) (o c:AO):(d.set a o).set a c=d.set a c:=by
 funext b;simp only [u_];split<;>rfl
open Mine.AS renaming set_set->Oe
theorem AS.set_same (h:b a=some ay):b.set a ay=b:=by
 funext c;simp only [u_];split
 .next e=>subst e;exact h.symm
 .rfl
theorem AS.free.ne (h:b.free a) (e:b d=some ay):d≠a:=λq=>by subst q;rw [h.1] at e;contradiction
structure Base where
 prog:GC
 w:Yv
 h₀:vW
 K:zr
 fa:Nat->gY
 ca:Nat->gY
 mg:j7->Option eH
 mb:j7->Option eH
 os:Wr
 tab:gY
 lc:gY
 EW:j7
 Hc:j7
noncomputable def Ap:Nat->eH
 |0=>.builtin "len"
 |1=>.builtin "sorted"
 |2=>.builtin "min"
 |3=>.builtin "max"
 |4=>.type "range"
 |5=>.type "tuple"
 |6=>.type "dict"
 |7=>.builtin "any"
 |8=>.builtin "abs"
 |9=>.type "int"
 |_=>.type "list"
mutual
inductive RV (B:Base) (h:vW):eH->AV->Prop where
 |none:RV B h .none .none
 |bool (b:Bool):RV B h (.bool b) (.bool b)
 |int (i:Int) (t:Tok):RV B h (.int i t) (.int i)
 |str (s:j7) (t:Tok):RV B h (.str s t) (.str s.cps.toList)
 |ref (a:gY):RV B h (.ref a) (.ref a)
 |fn (n:Nat):RV B h (.ref (B.fa n)) (.fn n)
 |cls (n:Nat):RV B h (.ref (B.ca n)) (.cls n)
 |bi (n:Nat):RV B h (Ap n) (.bi n)
 |BM {a:gY} {its:Array eH} {xs:List Int}:B.h₀.IsList a its->GD its.toList xs->its.size<=fF->RV B h (.ref a) (.BM xs)
 |pU {a:gY} {lo hi st:Int} {t u v:Tok}:IsRange h a lo hi st t u v->lo.natAbs<=1000000->hi.natAbs<=1000000->RV B h (.ref a) (.pU lo hi st)
 |tup {a:gY} {items:Array eH} {n:Nat} {xs:List AV}:h.get? a=some (gu "tuple" items n)->items.size<=fF->hX B h items.toList xs->RV B h (.ref a) (.tup xs)
inductive hX (B:Base) (h:vW):List eH->List AV->Prop where
 |nil:hX B h [] []
 |cons {v:eH} {x:AV} {vs:List eH} {xs:List AV}:RV B h v x->hX B h vs xs->hX B h (v::vs) (x::xs)
end
noncomputable def f_ (o:YI):Prop:=(o.cls= .type "tuple"\/o.cls= .type "range"\/o.cls= .type "code")/\(∀es ep,o.data≠.dict es ep)/\∀v,o.data≠.cell v
variable {c:Base} {H b8:vW}
theorem Iq (k:∀a o,H.get? a=some o->f_ o->b8.get? a=some o):(∀{v:eH} {x:AV},RV c H v x->RV c b8 v x)/\∀{d:List eH} {b:List AV},hX c H d b->hX c b8 d b:=by
 have m:∀{a:gY} {g h i:Int} {t u v:Tok},IsRange H a g h i t u v->g.natAbs<=1000000->h.natAbs<=1000000->RV c b8 (.ref a) (.pU g h i):=λq s p=>.pU (k _ _ q (iz (.inr (.inl rfl)) (by (repeat intro _);contradiction) (by (repeat intro _);contradiction))) s p
 have j:∀{a:gY} {f:Array eH} {n:Nat} {b:List AV},H.get? a=some (gu "tuple" f n)->f.size<=fF->hX c H f.toList b->hX c b8 f.toList b->RV c b8 (.ref a) (.tup b):=λe l _ r=>.tup (k _ _ e (iz (.inl rfl) (by (repeat intro _);contradiction) (by (repeat intro _);contradiction))) l r
 exact ⟨RV.rec (motive_1:=λv x _=>RV c b8 v x) (motive_2:=λd b _=>hX c b8 d b) .none .bool .int .str .ref .fn .cls .bi .BM m j .nil λ_ _=>.cons,
  hX.rec (motive_1:=λv x _=>RV c b8 v x) (motive_2:=λd b _=>hX c b8 d b) .none .bool .int .str .ref .fn .cls .bi .BM m j .nil λ_ _=>.cons⟩
variable {J:eH}
theorem RV.mono (b:∀a o,H.get? a=some o->f_ o->b8.get? a=some o) (q:RV c H J l):RV c b8 J l:=(Iq b).1 q
variable {aj:List eH} {j:List AV}
theorem hX.mono (b:∀a o,H.get? a=some o->f_ o->b8.get? a=some o) (q:hX c H aj j):hX c b8 aj j:=(Iq b).2 q
theorem hX.length (r:hX c H aj j):aj.length=j.length:=by
 induction aj generalizing j with
 |nil=>cases r;rfl
 |cons v aj b=>cases r with |cons a r=>simp [b r]
theorem hX.get (r:hX c H aj j):∀{i:Nat} {x:AV},j[i]? =some x->∃v,aj[i]? =some v/\RV c H v x:=by
 induction aj generalizing j with
 |nil=>cases r;intro i x e;simp at e
 |cons v aj b=>
  cases r with
  |cons a r=>
   intro i x e
   induction i using ji with
   |zero=>simp only [tL,jK] at e;subst e;exact ej v rfl a
   |succ d=>simp only [tM] at e⊢;exact b r e
variable {aN:List AV}
theorem hX.append {b:List eH} (r:hX c H aj j) (q:hX c H b aN):hX c H (aj++b) (j++aN):=by
 induction aj generalizing j with
 |nil=>cases r;exact q
 |cons v aj d=>cases r with |cons a r=>exact .cons a (d r)
theorem hX.take (r:hX c H aj j):∀n,hX c H (aj.take n) (j.take n):=by
 induction aj generalizing j with
 |nil=>cases r;intro n;simp;exact .nil
 |cons v aj b=>
  cases r with
  |cons a r=>intro n;induction n using ji with
   |zero=>exact .nil
   |succ n=>exact .cons a (b r n)
theorem hX.drop (r:hX c H aj j):∀n,hX c H (aj.drop n) (j.drop n):=by
 induction aj generalizing j with
 |nil=>cases r;intro n;simp;exact .nil
 |cons v aj b=>
  cases r with
  |cons a r=>intro n;induction n using ji with
   |zero=>exact .cons a r
   |succ n=>exact b r n
theorem hX.set (r:hX c H aj j) (q:RV c H J l):∀n,hX c H (aj.set n J) (j.set n l):=by
 induction aj generalizing j with
 |nil=>cases r;intro n;exact .nil
 |cons w aj b=>
  cases r with
  |cons a r=>intro n;induction n using ji with
   |zero=>exact .cons q r
   |succ n=>exact .cons a (b r n)
theorem hX.rev (r:hX c H aj j):hX c H aj.reverse j.reverse:=by
 induction aj generalizing j with
 |nil=>cases r;exact .nil
 |cons v aj b=>
  cases r with
  |cons a r=>rw [nJ,nJ];exact (b r).append (.cons a .nil)
noncomputable def Wc (B:Base) (h:vW) (v:eH):AV->Prop
 | .none=>v= .none
 | .bool b=>v= .bool b
 | .int i=>∃t,v= .int i t
 | .str l=>∃s t,v= .str s t/\l=s.cps.toList
 | .ref a=>v= .ref a
 | .fn n=>v= .ref (B.fa n)
 | .cls n=>v= .ref (B.ca n)
 | .bi n=>v=Ap n
 | .BM xs=>∃a its,v= .ref a/\B.h₀.IsList a its/\GD its.toList xs/\its.size<=fF
 | .tup xs=>∃a items n,v= .ref a/\h.get? a=some (gu "tuple" items n)/\items.size<=fF/\hX B h items.toList xs
 | .pU _ _ _=>True
theorem r6 (q:RV c H J l):Wc c H J l:=
 q.casesOn (motive_1:=λJ l _=>Wc c H J l) rfl (λ_=>rfl) (λ_ t=>(oK t rfl)) (λ_ _=>(nB _ _ rfl rfl)) (λ_=>rfl) (λ_=>rfl) (λ_=>rfl) (λ_=>rfl) (λe i a=>(pg _ _ rfl e i a)) (λ_ _ _=>trivial) λe a r=>sv _ _ _ rfl e a r
theorem qE (q:RV c H J .none):J= .none:=r6 q
theorem xb (q:RV c H J (.bool aw)):J= .bool aw:=r6 q
theorem Qs (q:RV c H J (.fn a)):J= .ref (c.fa a):=r6 q
theorem Lz (q:RV c H J (.cls a)):J= .ref (c.ca a):=r6 q
theorem Qt (q:RV c H J (.bi a)):J=Ap a:=r6 q
theorem gp (q:RV c H J (.int p)):∃t,J= .int p t:=r6 q
theorem Aq (q:RV c H J (.str C)):∃s t,J= .str s t/\C=s.cps.toList:=r6 q
theorem iB (q:RV c H J (.tup j)):∃a b n,J= .ref a/\H.get? a=some (gu "tuple" b n)/\b.size<=fF/\hX c H b.toList j:=r6 q
variable {a8:List Int}
theorem LA (q:RV c H J (.BM a8)):∃a b,J= .ref a/\c.h₀.IsList a b/\GD b.toList a8/\b.size<=fF:=r6 q
variable {z:gY}
theorem gN (q:RV c H J (.ref z)):J= .ref z:=r6 q
noncomputable def Tn (B:Base) (h:vW) (vs:List eH):List AV->Prop
 |[]=>vs=[]
 |x::xs=>∃v us,vs=v::us/\RV B h v x/\hX B h us xs
theorem Ir (q:hX c H aj j):Tn c H aj j:=
 q.casesOn (motive_2:=λaj j _=>Tn c H aj j) rfl λa b=>nu _ _ rfl a b
theorem Dr (q:hX c H aj []):aj=[]:=Ir q
theorem xc (q:hX c H aj (l::j)):∃v a,aj=v::a/\RV c H v l/\hX c H a j:=Ir q
theorem EX (q:hX c H [] j):j=[]:=by
 induction j using el with
 |nil=>rfl
 |cons x j=>refine i5 (xc q) λv a e _=>?_;injection e
theorem ye (q:hX c H (J::aj) j):∃x d,j=x::d/\RV c H J x/\hX c H aj d:=by
 induction j using el with
 |nil=>have:=Dr q;contradiction
 |cons x j=>
  refine jS (xc q) λw h e a b=>?_
  injection e with f g
  exact nu x j rfl (f▸a) (g▸b)
theorem LD (q:GD aj a8):hX c H aj (a8.map .int):=by
 induction q with
 |nil=>exact .nil
 |cons i t _ a=>exact .cons (.int i t) a
noncomputable def t7 (B:Base):KeyKind B.prog B.w Int:=Wj B.prog B.w
mutual
noncomputable def toPy:AV->PyData
 | .int i=>.int i
 | .str s=>.str ⟨s.toArray⟩
 | .tup xs=>.tuple (jW xs)
 |_=>.none
noncomputable def jW:List AV->List PyData
 |[]=>[]
 |x::r=>toPy x::jW r
end
theorem OO (s:j7):(⟨s.cps.toList.toArray⟩:j7)=s:=by rcases s with ⟨⟩;simp
theorem vK (e:∀x∈j,∀v,RV c H v x->∃d,Yy H v (toPy x) d) (r:hX c H aj j):∃d,ReadsAll H aj (jW j) d:=by
 induction j generalizing aj with
 |nil=>rw [Dr r];exact oK _ .nil
 |cons x j g=>
  refine v8 aj (xc r) λv h a b=>?_
  refine j_ (e _ (.head _) v a) λd q=>?_
  exact j_ (g (λx f=>e x (.tail _ f)) b) λi p=>oK _ (.cons q p)
theorem jX (p:jk a l) (r:RV c H J l):∃b,Yy H J (toPy l) b:=by
 induction p generalizing J with
 |int _ i=>refine rX J (gp r) λt=>?_;exact oK _ (.int i t)
 |str _ s _=>
  refine i5 (Aq r) λu t f h=>?_
  rw [f,h]
  show ∃b,Yy H _ (.str ⟨u.cps.toList.toArray⟩) b
  rw [OO]
  exact oK _ (.str u t)
 |tup k o v d=>
  refine g5 J (iB r) λn j m e _ q=>?_
  exact j_ (vK (λl g J r=>d l g r) q) λb q=>oK b (.tuple e rfl rfl q)
theorem xd (d:∀x∈j,jk a x) (r:hX c H aj j):∃b,ReadsAll H aj (jW j) b:=
 vK (λx e _ r=>jX (d x e) r) r
theorem y8 (e:∀x∈j,(toPy x).canLay0=true/\(toPy x).depth<=a):xS (jW j)=true/\qp (jW j)<=a:=by
 induction j with
 |nil=>exact ⟨rfl,fy _⟩
 |cons x r g=>
  refine iK (e x (.head _)) λh b=>iK (g λy f=>e y (.tail _ f)) λc d=>?_
  exact ⟨(eV _ _).mpr ⟨h,c⟩,Nat.max_le.mpr ⟨b,d⟩⟩
theorem iu (p:jk a l):(toPy l).canLay0=true/\(toPy l).depth<=a:=by
 induction p with
 |int _ i=>exact ⟨rfl,fy _⟩
 |str _ s d=>
  refine ⟨?_,fy _⟩
  show Qd _=true
  unfold Qd
  simp only [Array.all_eq_true,decide_eq_true_eq,List.getElem_toArray]
  exact λi f=>ei (d _ (fO _)) (by decide)
 |tup k g h c=>exact iK (y8 c) λe b=>⟨e,fh b⟩
theorem v9 (b:∀x∈j,jk a x):xS (jW j)=true/\qp (jW j)<=a:=y8 λx c=>iu (b x c)
theorem Cp:∀{a:List AV},(∀x∈j,∀y∈a,(mT (toPy x) (toPy y)=true↔x=y))->(sk (jW j) (jW a)=true↔j=a):=by
 induction j with
 |nil=>
  intro a _
  induction a using el with
  |nil=>exact ⟨λ_=>rfl,λ_=>rfl⟩
  |cons y a=>exact ⟨by intros;contradiction,by intros;contradiction⟩
 |cons x j d=>
  intro a b
  induction a using el with
  |nil=>exact ⟨by intros;contradiction,by intros;contradiction⟩
  |cons y a=>
   refine (qr.trans (and_congr (b x (.head _) y (.head _)) (d λz e u c=>b z (.tail _ e) u (.tail _ c)))).trans ?_
   exact ⟨λh=>h.1▸h.2▸rfl,λh=>⟨EE h,List.tail_eq_of_cons_eq h⟩⟩
theorem xe (c:jk a l) (b:jk d af):(mT (toPy l) (toPy af)=true↔l=af):=by
 induction c generalizing d af with
 |int _ i=>
  induction b using jk.casesOn with
  |int _ j=>exact beq_iff_eq.trans ⟨congrArg _,AV.int.inj⟩
  |_=>exact ⟨by intros;contradiction,by intros;contradiction⟩
 |str _ s _=>
  induction b using jk.casesOn with
  |str _ t _=>exact beq_iff_eq.trans ⟨λe=>congrArg AV.str (congrArg (λz:j7=>z.cps.toList) e),λe=>AV.str.inj e▸rfl⟩
  |_=>exact ⟨by intros;contradiction,by intros;contradiction⟩
 |tup m g c h=>
  induction b using jk.casesOn with
  |tup j f n=>exact (show sk (jW g) (jW f)=true↔_ from Cp λl k af o=>h l k (n af o)).trans ⟨congrArg _,AV.tup.inj⟩
  |_=>exact ⟨by intros;contradiction,by intros;contradiction⟩
theorem EY (f:∀x∈j,jk a x) (b:∀y∈aN,jk d y):(sk (jW j) (jW aN)=true↔j=aN):=
 Cp λx c y e=>xe (f x c) (b y e)
theorem Iu (d:Plain l):(∀x∈j,Plain x)->(((jW j).any λy=>mT y (toPy l))=true↔l∈j):=by
 induction j with
 |nil=>exact λ_=>⟨by intros;contradiction,by intros;contradiction⟩
 |cons x r c=>
  intro a
  show (mT (toPy x) (toPy l)||_)=true↔_
  rw [j1,eK,xe (a x (.head _)) d,c λy b=>a y (.tail _ b)]
  exact or_congr_left ⟨rG,rG⟩
mutual
noncomputable def Iv:AV->Int
 | .int i=>hashInt i
 | .tup xs=>QS (qe (v_ xs))
 |_=>0
noncomputable def v_:List AV->List Int
 |[]=>[]
 |x::r=>Iv x::v_ r
end
mutual
noncomputable def Ds:AV->Nat
 | .tup xs=>rI xs+1
 |_=>1
noncomputable def rI:List AV->Nat
 |[]=>0
 |x::r=>Ds x+rI r
end
theorem BO:∀(b a:List AV),v_ (b++a)=v_ b++v_ a:=by
 intro d
 induction d with
 |nil=>
  intro _
  exact rfl
 |cons x r c=>
  exact λa=>congrArg (Iv x::·) (c a)
theorem Ar:∀(b a:List AV),rI (b++a)=rI b+rI a:=by
 intro d
 induction d with
 |nil=>
  exact λa=>(iW _).symm
 |cons x r c=>
  exact λa=>(congrArg (Ds x+·) (c a)).trans (fJ ..).symm
variable {m:eL} {bf:Array eH}
theorem oP (h:m.heap.get? z=some (gu "tuple" bf a)):m.TypeIs (.ref z) "tuple":=ej _ h rfl
variable {aG:eH->eL->Prop}
theorem LF (J:oO a l):∀{v:eH} {A:jc} {d:eL} {Q:Int->eL->Prop},RV c d.heap v l->A.units+10*a+20<vy->
 Q (Iv l) {d with toks:=d.toks+Ds l}->gc (hU c.prog c.w) A (pyHash v) Q aG d:=by
 induction J with
 |int _ i=>intro v A d Q q g h;refine rX v (gp q) λt=>?_;exact wpAny_pyHash_int h
 |tup a D I B=>
  intro v A d Q q g h
  refine g5 v (iB q) λp L n j C k=>?_
  have e:d.TypeIs (.ref p) "tuple":=oP j
  unfold pyHash pyHashByItsType
  refine b5 (wpAny_cRoomFor_or (.inr (by exact u0 g)) ?_)
  refine b5 (rR e tH.lookup ?_)
  refine nV (decide_eq_false λz=>gM ((beq_builtin_none _).symm.trans z)) ?_
  refine b5 (rR e tH.lookup ?_)
  show gc _ _ (callSpecialIfBoundUnlessNone? (.ref p) "__hash__" _>>= _) Q aG d
  refine b5 (wpAny_callSpecialIfBoundUnlessNone?_slot e tH (ng tH e F.entry_tuple_hash ?_ (F.args_tuple_hash_1 _)))
  show gc _ _ (wM (.ref p)>>= _) _ _ d
  refine b5 (z8 j rfl ?_)
  refine b5 ?_
  rw [<-Jy]
  refine qP _
   (λy (b:Array Int) o=>∃done left,D=done++left/\hX c d.heap y left/\b.toList=v_ done/\o={d with toks:=d.toks+rI done})
   _ ?_ ?_ _ _ (pg [] D rfl k rfl rfl)
  .clear h j C k e;intro x y b o z;refine nW z λdone left f m r w=>?_
   refine jS (ye m) λl G E K H=>?_
   rw [E] at f
   rw [w]
   refine b5 (B l (by rw [f];exact fT _ (.head _)) (d:={d with toks:=d.toks+rI done}) K (by simp only [Around.in1_units];exact u1 g) ?_)
   refine dk (pg (done++[l]) G (f.trans (List.append_cons ..)) H (by rw [sm,r,BO];rfl) ?_)
   rw [Ar,<-fJ];rfl
  .intro b o z;refine nW z λdone left f m r w=>?_
   clear B g j C e I k
   rw [EX m,eR] at f
   rw [f] at h
   show gc _ _ (retInt (qe b.toList)) _ _ _
   rw [r,w]
   refine wpAny_ret_mkInt ?_
   have h:Q (QS (qe (v_ done))) {d with toks:=d.toks+(rI done+1)}:=h
   rw [<-fJ] at h
   unfold QS at h
   refine wpAny_ite_split (λu=>?_) λu=>?_
   .rw [if_pos u] at h;exact dk h
   .rw [if_neg u] at h;exact b5 (nF (dk h))
theorem JE (L:oO a l):∀{d:Nat} {v:eH} {A:jc} {s:eL} {Q:Bool->eL->Prop},a<=d->RV c s.heap v l->Q true s->gc (hU c.prog c.w) A (eqIsQuiet d v) Q aG s:=by
 induction L with
 |int _ i=>intro d v A s Q b q h;refine rX v (gp q) λt=>?_;rw [eqIsQuiet_byValue _ rfl];exact dk h
 |tup a C K u=>
  intro d v A s Q b q h
  refine g5 v (iB q) λB E n f w k=>?_
  have g:s.TypeIs (.ref B) "tuple":=oP f
  induction d using ji with
  |zero=>exact absurd b (Nat.not_succ_le_zero _)
  |succ d=>
  unfold eqIsQuiet
  refine b5 (rR g F.slot_tuple_eq.lookup ?_)
  show gc _ _ (YE (.ref B) (.type "tuple")>>= _) _ _ s
  refine b5 (Sv g N1 ?_)
  refine nV rfl ?_
  refine b5 (sT f rfl ?_)
  refine b5 ?_
  show gc _ _ (forIn E _ _) _ _ s
  rw [<-Jy]
  refine qP _ (λp r o=>r.1=none/\o=s/\∃left,hX c s.heap p left/\∀x∈left,x∈C) _ ?_ ?_ _ _ ⟨rfl,rfl,C,k,λ_ h=>h⟩
  .clear h f w k g;intro v p r o z;refine Dj z λj e left H m=>?_
   refine jS (ye H) λl N G M I=>?_
   rw [G] at m
   rw [e]
   refine b5 (u l (m l (.head _)) (gZ b) M ?_)
   refine nV rfl ?_
   exact dk ⟨rfl,rfl,N,I,λy D=>m y (.tail _ D)⟩
  .clear u K f w k g b;intro r o z;refine mW z λj e _=>?_
   obtain ⟨J,O⟩:=r
   have j:J=none:=j
   rw [j,e]
   exact dk h
theorem oO.plain (q:oO a l):jk a l:=by
 induction q with
 |int n i=>exact .int _ i
 |tup n c _ b=>exact .tup _ c b
theorem OP:∀{g:List AV} {h:List eH},(∀x∈j,∀y∈g,∀v,RV c H v x->RV c H v y->x=y)->hX c H h j->hX c H h g->j=g:=by
 induction j with
 |nil=>intro g h _ i f;rw [Dr i] at f;exact (EX f).symm
 |cons x j n=>
  intro g h k i f
  refine jS (xc i) λv q e a b=>?_
  rw [e] at f
  refine jS (ye f) λy r o p d=>?_
  rw [o] at k⊢
  exact congr (congrArg Oa (k x (.head _) y (.head _) v a p)) (n (λx m y l=>k x (.tail _ m) y (.tail _ l)) b d)
theorem JF (n:jk a l) (h:jk d af) (q:RV c H J l) (p:RV c H J af):l=af:=by
 induction n generalizing d af J with
 |int _ i=>
  refine j_ (gp q) λt f=>?_
  induction h using jk.casesOn with
  |int _ j=>exact j_ (gp p) λu e=>congrArg AV.int (Value.int.inj (f.symm.trans e)).1
  |str _ s _=>refine i5 (Aq p) λs u e _=>?_;have:=f.symm.trans e;contradiction
  |tup _ v _=>refine mX (iB p) λk _ _ e _ _ _=>?_;have:=f.symm.trans e;contradiction
 |str _ s _=>
  refine i5 (Aq q) λG t f C=>?_
  induction h using jk.casesOn with
  |int _ j=>refine j_ (gp p) λu e=>?_;have:=f.symm.trans e;contradiction
  |str _ s _=>exact i5 (Aq p) λF u e w=>congrArg AV.str (C.trans ((congrArg (λz:j7=>z.cps.toList) (Value.str.inj (f.symm.trans e)).1).trans w.symm))
  |tup _ v _=>refine mX (iB p) λk _ _ e _ _ _=>?_;have:=f.symm.trans e;contradiction
 |tup a K I y=>
  refine mX (iB q) λk D m f x _ B=>?_
  induction h using jk.casesOn with
  |int _ j=>refine j_ (gp p) λu e=>?_;have:=f.symm.trans e;contradiction
  |str _ s _=>refine i5 (Aq p) λs u e _=>?_;have:=f.symm.trans e;contradiction
  |tup _ v A=>
   refine mX (iB p) λb E L e o _ r=>?_
   rw [<-Value.ref.inj (f.symm.trans e)] at o
   have g:=d5 (x.symm.trans o)
   injection g with _ _ g _
   injection g with g _
   rw [<-g] at r
   exact congrArg AV.tup (OP (λl n af h J k b=>y l n (A af h) k b) B r)
noncomputable instance:DecidableEq AV:=λa b=>WD (a=b)
noncomputable def tupK (B:Base):HeapKind B.prog B.w AV where
 is:=λh k a=>Lw k/\RV B h (.ref a) k
 hash:=Iv
 draws:=Ds
 room:=λA=>A.units+100<vy
 inj:=λhx hy=>JF hx.1.2.plain hy.1.2.plain hx.2 hy.2
 keeps:=λx ho hd hs=>⟨x.1,x.2.mono λa o e f=>(hs.2 a λq=>by
  subst q;rw [ho] at e;(injection e with e;subst e)
  exact f.2.1 _ _ hd).trans e⟩
 pyHash:=λhu hk h=>LF hk.1.2 hk.2 (by exact ul 60 hu rfl) h
 eqBool:=λ{A E s x y a b Q} hu hx hy h=>by
  obtain ⟨as,ra⟩:=jX hx.1.2.plain hx.2
  obtain ⟨bs,rb⟩:=jX hy.1.2.plain hy.2
  refine eqBoolOverData _ _ _ _ _ _ _ _ _ _ _ _ ra rb (iu hx.1.2.plain).1 (iu hy.1.2.plain).1 ?_ ?_
  .have:=(iu hx.1.2.plain).2
   exact um hu this rfl
  .have e:mT (toPy x) (toPy y)=decide (x=y):=by
    have:=xe hx.1.2.plain hy.1.2.plain
    by_cases q:x=y
    .rw [decide_eq_true q];exact this.mpr q
    .rw [decide_eq_false q]
     cases z:mT (toPy x) (toPy y) with
     |false=>rfl
     |true=>exact absurd (this.mp z) q
   rw [e];exact h
 quiet:=λhk h=>JE hk.1.2 (by decide) hk.2 h
section
section
variable {prog:GC} {w:Yv} {K:Type} [DecidableEq K] {knd:KeyKind prog w K} {A:jc} {E:eH->eL->Prop} {s:eL}
theorem Hd {es:Array pS} {kvs:List (K×eH)} (hp:Pairs knd es.toList kvs) (k:K):(es.findIdx? λe=>knd.is k e.key)=kvs.findIdx? λkv=>decide (kv.1=k):=by
 rw [<-hp.findIdx k];clear hp;obtain ⟨l⟩:=es;simp
theorem tQ {kvs:List (K×eH)} {k:K} {i:Nat} (h:(kvs.findIdx? λkv=>decide (kv.1=k))=some i):∃v,jm kvs k=some v/\kvs[i]? =some (k,v):=by
 induction kvs generalizing i with
 |nil=>simp at h
 |cons p r ih=>
  rw [KS] at h
  by_cases hk:p.1=k
  .simp only [hk,decide_true,if_true,jK] at h
   clear ih;subst h;subst hk
   exact ej p.2 (by simp [jm]) rfl
  .simp only [hk,decide_false,fX,if_false] at h
   refine iQ i (fW.mp h) λj hj=>?_
   refine eS (ih hj) λv hv he=>?_
   exact ej v (by simpa [jm,qL,hk] using hv) (by simpa using he)
theorem tR {kvs:List (K×eH)} {k:K} (h:(kvs.findIdx? λkv=>decide (kv.1=k))=none):jm kvs k=none:=by
 rw [List.findIdx?_eq_none_iff] at h
 simp only [jm,Option.map_eq_none_iff,jL]
 intro x hx;simpa using h x hx
theorem JG {es:List pS} {kvs:List (K×eH)} (hp:Pairs knd es kvs):∀{i:Nat} {p:K×eH},kvs[i]? =some p->∃e,es[i]? =some e/\e.val=p.2:=by
 induction hp with
 |nil=>intro i p h;simp at h
 |cons h1 h2 _ ih=>
  intro i p h
  induction i using ji with
  |zero=>simp only [tL,jK] at h;subst h;exact ej _ rfl h2
  |succ j=>exact ih (by simpa using h)
theorem Av {d:gY} {kvs:List (K×eH)} {k:K} {key v:eH} {ep:Nat} {pt:Option eH} {Q:Unit->eL->Prop} (hkey:knd.is k key=true) {o:YI} {es:Array pS} (ho:s.heap.get? d=some o) (hc:o.ExactDict) (hd:o.data= .dict es ep) (hk:KeysOf knd es)
 (hp:Pairs knd es.toList kvs) (hn:(kvs.map (·.1)).Nodup) (hi:(es.findIdx? λe=>knd.is k e.key)=none) (hsz:kvs.length<=x6)
 (hQ:∀h',h'.DictAt knd d (kvs++[(k,v)]) (ep+1)->iE d s.heap h'->Q () {s with heap:=h'}):
 gc (hU prog w) A (updateDictKeys d (·.push ⟨knd.hash k,key,v⟩) pt) Q E s:=by
 have hes:es.size<=sizeLine:=by
  have e1:=hp.length
  have e2:es.toList.length=es.size:=by simp
  exact n1 (e2.symm.trans e1) hsz
 have hnot:k∉kvs.map (·.1):=not_mem_of_findIdx_none (by rw [<-Hd hp];exact hi)
 refine wpAny_updateDictKeys (hz:=hes) ho hd (hQ _ (nY _ _ (nE _ ho (KP (Js hd _))) (hc.mapDictKeys _) (Js hd _) (hk.push hkey _) ?_ ?_) (gK ..))
 .have:=hp.append hkey (knd.hash k) v
  clear hkey ho hc hd hk hp hn hi hsz hQ hes hnot;obtain ⟨l⟩:=es
  simpa using this
 .rw [b_,eP]
  exact iz hn (by simp) (λa ha b hb e=>by simp at hb;exact hnot (hb▸e▸ha))
theorem BP {d:gY} {kvs:List (K×eH)} {k:K} {key dflt:eH} {ep:Nat} {Q:eH->eL->Prop} (hkey:knd.is k key=true) (hm:s.heap.DictAt knd d kvs ep)
 (h1:∀v,jm kvs k=some v->Q v {s with toks:=s.toks+1})
 (h2:jm kvs k=none->∀h',h'.DictAt knd d (kvs++[(k,dflt)]) (ep+1)->iE d s.heap h'->Q dflt {s with heap:=h',toks:=s.toks+1})
 (hsz:kvs.length<=x6):gc (hU prog w) A (GS d key dflt) Q E s:=by
 refine iP hm λo es ho hc hd hk hp hn=>?_
 unfold GS
 try with_reducible refine f6 ?_
 refine b5 (knd.pyHash hkey ?_)
 refine b5 (R5 (s:={s with toks:=s.toks+1}) hkey ho hd hk ?_)
 have hidx:=Hd hp k
 induction hi:es.findIdx? λe=>knd.is k e.key with
 |some i=>
  refine eS (tQ (hidx▸hi)) λv hv hget=>?_
  refine eS (JG hp hget) λe he hev=>?_
  refine b5 (wpAny_dictEntries (s:={s with toks:=s.toks+1}) ho hd ?_)
  rw [gF] at he
  rw [he]
  exact b5 (nF (dk (hev▸h1 v hv)))
 |none=>
  refine b5 (nF (b5 (Av (s:={s with toks:=s.toks+1}) hkey ho hc hd hk hp hn hi hsz λh' hm' hs'=>dk ?_)))
  exact h2 (tR (hidx▸hi)) h' hm' hs'
theorem wa {d:gY} {kvs:List (K×eH)} {k:K} {key v:eH} {ep:Nat} {Q:Unit->eL->Prop} (hkey:knd.is k key=true) (hm:s.heap.DictAt knd d kvs ep)
 (h1:∀h',jm kvs k≠none->h'.DictAt knd d (kvs.map λkv=>if kv.1=k then (kv.1,v) else kv) ep->iE d s.heap h'->Q () {s with heap:=h',toks:=s.toks+1})
 (h2:∀h',jm kvs k=none->h'.DictAt knd d (kvs++[(k,v)]) (ep+1)->iE d s.heap h'->Q () {s with heap:=h',toks:=s.toks+1})
 (hsz:kvs.length<=x6):gc (hU prog w) A (K0 d key v) Q E s:=by
 refine iP hm λo es ho hc hd hk hp hn=>?_
 unfold K0
 try with_reducible refine f6 ?_
 refine b5 (knd.pyHash hkey ?_)
 unfold dictSetHashed
 try with_reducible refine f6 ?_
 refine b5 (R5 (s:={s with toks:=s.toks+1}) hkey ho hd hk ?_)
 have hidx:=Hd hp k
 induction hi:es.findIdx? λe=>knd.is k e.key with
 |some i=>
  have hany:(kvs.any λkv=>decide (kv.1=k))=true:=any_of_findIdx_some (hidx▸hi)
  refine eS (tQ (hidx▸hi)) λv₀ hv _=>?_
  refine b5 (nF (b5 (wpAny_updateDict (s:={s with toks:=s.toks+1}) ho hd (wpAny_point (h1 _ (by rw [hv];simp) (nY _ _ (nE _ ho (KP (Oy hd _))) (hc.mapDict _) (Oy hd _) (hk.modify _ _) ?_ ?_) (gK ..))))))
  .have hl:(es.toList.findIdx? λe=>knd.is k e.key)=some i:=by rw [<-hi];clear hkey h1 h2 hsz ho hc hd hk hidx hi hany hv;obtain ⟨l⟩:=es;simp
   have:=hp.modify hn hl v
   clear hkey h1 h2 hsz ho hc hd hk hp hn hidx hi hany hv hl;obtain ⟨l⟩:=es
   simpa using this
  .have:=keys_map_store kvs k v
   rw [this];exact hn
 |none=>
  refine b5 (nF (Av (s:={s with toks:=s.toks+1}) hkey ho hc hd hk hp hn hi hsz λh' hm' hs'=>?_))
  exact h2 h' (tR (hidx▸hi)) hm' hs'
end
end
inductive RD (B:Base) (h:vW) (a:gY):List (AV×AV)->Prop where
 |int {kvs:List (Int×eH)} {pvs:List (AV×AV)}:h.DictAt (t7 B) a kvs kvs.length->hX B h (kvs.map (·.2)) (pvs.map (·.2))->pvs.map (·.1)=kvs.map (λp=>.int p.1)->RD B h a pvs
 |tup {tvs:List (AV×gY×eH)} {pvs:List (AV×AV)}:h.DictOfH (tupK B) a tvs->hX B h (tvs.map (·.2.2)) (pvs.map (·.2))->pvs.map (·.1)=tvs.map (·.1)->pvs≠[]->RD B h a pvs
inductive yf (B:Base) (h:vW):List pS->List (Nat×AV)->Prop where
 |nil:yf B h [] []
 |cons {e:pS} {x:Nat} {v:AV} {es:List pS} {fs:List (Nat×AV)} (n:j7) (t:Tok):AT[x]? =some n->e.key= .str n t->RV B h e.val v->yf B h es fs->yf B h (e::es) ((x,v)::fs)
inductive RO (B:Base) (h:vW) (a:gY):AO->Prop where
 |list {its:Array eH} {n:Nat} {xs:List AV}:h.get? a=some (listOf its n)->hX B h its.toList xs->xs.length<=fF->RO B h a (.list xs)
 |dict {kvs:List (AV×AV)}:RD B h a kvs->kvs.length<=fF->RO B h a (.dict kvs)
 |inst {c dx:Nat} {es:List pS} {n:Nat} {fs:List (Nat×AV)}:h.get? a=some (uc (B.ca c) dx)->h.get? dx=some (rv es n)->yf B h es fs->(fs.map (·.1)).Nodup->c<10->RO B h a (.inst c dx fs)
noncomputable def ic (B:Base) (st:AS) (b:gY):Prop:=st b≠none\/(∃a c fs,st a=some (.inst c b fs))\/b=B.tab
noncomputable def uy (h:vW) (cv:eH) (q:j7):Prop:=∃c o vs t,cv= .ref c/\h.get? c=some o/\f_ o/\o.data= .fields vs/\vs[1]? =some (.str q t)
theorem uy.mono (x:uy H J ao) (g:∀a o,H.get? a=some o->f_ o->b8.get? a=some o):uy b8 J ao:=
 yb x λc o b t e d f r=>(vb c o b t e (g c o d f) f r)
noncomputable def Iw (B:Base) (h:vW):Prop:=∃ps,h.get? B.tab=some (K5 ps)/\SJ ps.toList/\∀pos cv,yS pos ps.toList=some cv->uy h cv B.Hc
theorem Iw.mono (x:Iw c H) (d:∀a o,H.get? a=some o->f_ o->b8.get? a=some o) (g:∀o,H.get? c.tab=some o->b8.get? c.tab=some o):Iw c b8:=
 gj x λps e t f=>(gr ps (g _ e) t (λp b q=>(f p b q).mono d))
structure R (B:Base) (st:AS) (s:eL):Prop where
 objs:∀a o,st a=some o->RO B s.heap a o
 old:∀b o,B.h₀.get? b=some o->s.heap.get? b=some o
 new:∀b,ic B st b->B.h₀.get? b=none
 Cq:∀a c dx fs,st a=some (.inst c dx fs)->st dx=none/\dx≠B.tab/\∀b c' fs',st b=some (.inst c' dx fs')->b=a
 vB:st B.tab=none
 tab:Iw B s.heap
 gens:s.gens=#[]
 os:s.os=B.os
structure St (B:Base) (st:AS) (s:eL) (st':AS) (s':eL):Prop where
 keep:∀b o,s.heap.get? b=some o->¬ic B st b->s'.heap.get? b=some o
 foot:∀b,ic B st' b->ic B st b\/s.heap.get? b=none
structure fI (s s':eL):Prop where
 keep:∀b o,s.heap.get? b=some o->s'.heap.get? b=some o
 gens:s'.gens=s.gens
 os:s'.os=s.os
theorem fI.refl (s:eL):fI s s:=⟨λ_ _ e=>e,rfl,rfl⟩
open Mine.fI renaming refl->hJ
variable {ae aZ:eL}
theorem fI.trans (x:fI m ae) (y:fI ae aZ):fI m aZ:=⟨λp o e=>y.keep p o (x.keep p o e),y.gens.trans x.gens,y.os.trans x.os⟩
theorem fI.toks (s:eL) (t:Nat):fI s {s with toks:=t}:=⟨λ_ _ e=>e,rfl,rfl⟩
open Mine.fI renaming toks->iO
theorem fI.of_keep (c:∀b o,m.heap.get? b=some o->H.get? b=some o):fI m {m with heap:=H,toks:=a}:=⟨c,rfl,rfl⟩
open Mine.fI renaming of_keep->qx
theorem fI.push (s:eL) (o:YI):fI s {s with heap:=s.heap.push o}:=⟨λ_ _ e=>fo o e,rfl,rfl⟩
open Mine.fI renaming push->jw
theorem RV.grow {x:AV} (r:RV c m.heap J x) (g:fI m ae):RV c ae.heap J x:=r.mono λa o e _=>g.keep a o e
theorem hX.grow (r:hX c m.heap aj j) (g:fI m ae):hX c ae.heap aj j:=r.mono λa o e _=>g.keep a o e
variable {aC:List (AV×AV)}
theorem RD.mono (r:RD c H z aC) (f:∀z o,H.get? z=some o->f_ o->b8.get? z=some o) (i:∀x,H.get? z=some x->b8.get? z=some x):RD c b8 z aC:=by
 induction r with
 |int d q e=>
  refine i5 d λo g b r=>?_
  exact .int (nB o g (i _ b) r) (q.mono f) e
 |tup d q e j=>
  refine sZ d λo g l b a k n h m=>?_
  exact .tup ⟨o,g,l,(i _ b),a,k,n,(λx a=>⟨(h x a).1,(h x a).2.mono f⟩),m⟩ (q.mono f) e j
theorem RD.obj (r:RD c H z aC):∃o a b,H.get? z=some o/\o.ExactDict/\o.data= .dict a b/\a.size=aC.length:=by
 induction r with
 |int d q e=>
  refine iP d λo a g h f _ i _=>?_
  exact sv o a _ g h f (by rw [<-eB,i.length];have:=congrArg fj e;simpa using this.symm)
 |tup d q e k=>
  refine oV d λo a b g h f j _=>?_
  exact sv o a b g h f (by rw [<-eB,j];have:=congrArg fj e;simpa using this.symm)
theorem RD.nodup (r:RD c H z aC):(aC.map (·.1)).Nodup:=by
 induction r with
 |int d q e=>
  refine iP d λo h f g b _ j a=>?_
  rw [e,show (λp:Int×eH=>AV.int p.1)=(AV.int∘λp:Int×eH=>p.1) from rfl,<-et]
  exact gi.mpr (l_ (λH e=>H (by injection e)) a)
 |tup d q e i=>
  refine sZ d λo h k f g b l _ a=>?_
  rw [e];exact a
theorem RD.GN (r:RD c H z aC) (n:IntKeys aC):∃a,H.DictAt (t7 c) z a a.length/\hX c H (a.map (·.2)) (aC.map (·.2))/\aC.map (·.1)=a.map (λp=>.int p.1):=by
 cases r with
 |int d q e=>exact gr _ d q e
 | @tup s _ d q e b=>
  refine sZ d λo B x k m h v w l=>?_
  clear q k m h v l;clear d;induction aC using el with
  |nil=>exact absurd rfl b
  |cons p ps=>
   clear b;induction s using el with
   |nil=>contradiction
   |cons t y=>
    refine j_ (n p (.head _)) λi j=>?_
    have u:p.1=t.1:=by injection e
    refine iK (w t (.head _)).1 λg _=>?_;refine j_ g λA f=>?_
    rw [<-u,j] at f;contradiction
theorem RD.Vs (r:RD c H z aC) (f:∀p∈aC,Lw p.1):∃a,H.DictOfH (tupK c) z a/\hX c H (a.map (·.2.2)) (aC.map (·.2))/\aC.map (·.1)=a.map (·.1):=by
 cases r with
 |tup d q e y=>exact gr _ d q e
 | @int j _ d q e=>
  refine iP d λo g n u m v b s=>?_
  clear q v s;clear d;induction j using el with
  |nil=>
   have x:aC=[]:=by simpa using e
   clear f e;subst x
   generalize i:g.toList=l at b
   cases b
   exact gr [] ⟨o,g,_,n,u,m,i,by simp,eI⟩ .nil rfl
  |cons t A=>
   induction aC using el with
   |nil=>contradiction
   |cons p ps=>
    refine iK (f p (.head _)) λk _=>?_;obtain ⟨B,h⟩:=k
    have w:p.1= .int t.1:=by injection e
    rw [h] at w;contradiction
variable {bE:List pS}
theorem yf.mono (d:∀a o,H.get? a=some o->f_ o->b8.get? a=some o) (q:yf c H bE aS):yf c b8 bE aS:=by
 induction q with
 |nil=>exact .nil
 |cons n t a b e _ r=>exact .cons n t a b (e.mono d) r
theorem RO.mono (r:RO c H z ay) (b:∀z ay,H.get? z=some ay->f_ ay->b8.get? z=some ay) (f:∀x,H.get? z=some x->b8.get? z=some x) (h:∀j a g,ay= .inst j a g->∀x,H.get? a=some x->b8.get? a=some x):RO c b8 z ay:=by
 induction r with
 |list e q l=>exact .list (f _ e) (q.mono b) l
 |dict d l=>exact .dict (d.mono b f) l
 |inst e d q i l=>exact .inst (f _ e) (h _ _ _ rfl _ d) (q.mono b) i l
theorem RO.grow (r:RO c m.heap z ay) (g:fI m ae):RO c ae.heap z ay:=r.mono (λz ay e _=>g.keep z ay e) (λx e=>g.keep _ _ e) (λ_ _ _ _ _ e=>g.keep _ _ e)
theorem R.grow (r:R c b m) (g:fI m ae):R c b ae where
 objs a o e:=(r.objs a o e).grow g
 old d o e:=g.keep _ _ (r.old d o e)
 new:=r.new
 Cq:=r.Cq
 vB:=r.vB
 tab:=r.tab.mono (λa o e _=>g.keep a o e) λo e=>g.keep _ o e
 gens:=g.gens.trans r.gens
 os:=g.os.trans r.os
theorem St.grow (g:fI m ae):St c b m b ae:=⟨λa o e _=>g.keep a o e,λ_ f=>.inl f⟩
open Mine.St renaming grow->Ex
theorem St.refl:St c b m b m:=Ex (hJ m)
theorem St.trans (x:St c b m q ae) (y:St c q ae ax aZ):St c b m ax aZ where
 keep a o e f:=y.keep a o (x.keep a o e f) λg=>(x.foot a g).elim f λl=>nomatch e.symm.trans l
 foot a f:=(y.foot a f).elim (x.foot a) λl=>by
  by_cases d:ic c b a
  .exact .inl d
  .induction e:m.heap.get? a with
   |none=>exact .inr rfl
   |some o=>exact nomatch (x.keep a o e d).symm.trans l
theorem qF (a:Array eH) (n:Nat):¬f_ (listOf a n):=λq=>by
 rcases q.1 with q |q |q<;>exact absurd (show (wL "list")=wL _ from q) (by decide)
variable {cf:YI}
theorem rJ {es ep} (h:cf.data= .dict es ep):¬f_ cf:=λq=>q.2.1 _ _ h
theorem OQ (c d:gY):¬f_ (uc c d):=λq=>by
 rcases q.1 with q |q |q<;>exact KO (show (K7 c)=wL _ from q)
theorem LG (a:Array eH):¬f_ (K5 a):=λq=>by
 rcases q.1 with q |q |q<;>exact KO (show jn=wL _ from q)
theorem R.oD (r:R c b m) (f:ic c b z):∃o,m.heap.get? z=some o/\¬f_ o:=by
 rcases f with f |⟨a,k,h,e⟩ |rfl
 .induction e:b z using d_ with
  |none=>exact absurd e f
  |some o=>
   induction r.objs z o e using RO.casesOn with
   |list q _ _=>exact ej _ q (qF _ _)
   |dict q _=>refine mX q.obj λo j i g _ d _=>?_;exact ej _ g (rJ d)
   |inst q _ _ _ _=>exact ej _ q (OQ _ _)
 .cases r.objs a _ e with
  |inst _ q _ _ _=>exact ej _ q (rJ rfl)
 .refine eS r.tab λps e _=>?_
  exact ej _ e (LG _)
theorem R.OR (r:R c b m) (f:ic c b z):z<m.heap.objs.size:=eS (r.oD f) λ_ e _=>rq e
theorem St.frozen (r:R c b m) (x:St c b m q ae):∀a o,m.heap.get? a=some o->f_ o->ae.heap.get? a=some o:=λa o e f=>
 x.keep a o e λg=>by
  refine eS (r.oD g) λh d n=>?_
  rw [e] at d;obtain rfl:=d5 d;exact n f
theorem RV.step (a:RV c m.heap J l) (r:R c b m) (y:St c b m q ae):RV c ae.heap J l:=a.mono (y.frozen r)
theorem hX.step (a:hX c m.heap aj j) (r:R c b m) (y:St c b m q ae):hX c ae.heap aj j:=a.mono (y.frozen r)
theorem ic.le (d:eD b q) (f:ic c b z):ic c q z:=by
 rcases f with f |⟨a,h,g,e⟩ |rfl
 .induction e:b z using d_ with
  |none=>exact absurd e f
  |some o=>exact .inl (by rw [d z o e];simp)
 .exact .inr (.inl (qA a h g (d a _ e)))
 .exact .inr (.inr rfl)
theorem R.le (r:R c q m) (d:eD b q):R c b m where
 objs a o e:=r.objs a o (d a o e)
 old:=r.old
 new g f:=r.new g (f.le d)
 Cq a t i j e:=by
  refine mW (r.Cq a t i j (d _ _ e)) λs l k=>?_
  refine iz ?_ l (λg u n p=>k g u n (d _ _ p))
  induction h:b i using d_ with
  |none=>rfl
  |some o=>rw [d _ _ h] at s;contradiction
 vB:=by
  induction h:b c.tab using d_ with
  |none=>rfl
  |some o=>have:=r.vB;rw [d _ _ h] at this;contradiction
 tab:=r.tab
 gens:=r.gens
 os:=r.os
theorem St.le (x:St c b m q ae) (d:eD ax q):St c b m ax ae:=⟨x.keep,λa f=>x.foot a (f.le d)⟩
theorem sy (x:j7):∀l:List (j7×h),h_ l x=l.lookup x:=by
 intro d
 induction d with
 |nil=>
  exact rfl
 |cons c r b=>
  obtain ⟨y,v⟩:=c
  rw [te,eM]
  by_cases a:x=y
  .subst a;simp
  .rw [if_neg a,beq_false_of_ne a,b]
theorem pj:∀{l:List j7} {x:j7} {i:Nat},r5 l x=some i->l[i]? =some x:=by
 intro c
 induction c with
 |nil=>
  intro _ _ h
  contradiction
 |cons y r a=>
  intro x i h
  rw [Ck] at h
  by_cases e:x=y
  .rw [if_pos e] at h;obtain rfl:=d5 h;subst e;rfl
  .rw [if_neg e] at h
   refine iQ i (fW.mp h) λj b=>?_
   exact (tM ..).trans (a b)
theorem He:ao∈slots v->(v.map (·.1)).Nodup->∃k,h_ v ao=some k/\isVar k=true:=by
 intro d c
 refine iQ ao (ck.mp d) λp b=>?_
 have a:=(gB.mp b).1
 refine ej p.2 ?_ (gB.mp b).2
 clear d b
 induction v with
 |nil=>exact (eg a).elim
 |cons y r f=>
  obtain ⟨n,k⟩:=y
  rw [eG,eT] at c
  rw [te]
  rcases eK.mp a with rfl |a
  .simp
  .rw [if_neg (λe:p.1=n=>c.1 (by rw [<-e];exact ck.mpr (ej p a rfl)))]
   exact f c.2 a
structure To (env:zv) (ns:gn):Prop where
 kind:env.scope.kind= .function
 nd:(ns.map (·.1)).Nodup
 loc:∀x,h_ ns x=some .local->env.kindOf x=some .local
 var:∀x k,h_ ns x=some k->k= .cell\/k= .free->(env.kindOf x=some .cell\/env.kindOf x=some .free)/\∃c,env.cells.lookup x=some c
 own:∀x,h_ ns x=some .cell->env.kindOf x=some .cell
 glob:∀x,h_ ns x=some .globalImplicit->env.kindOf x=some .globalImplicit
 globals:env.globals=iD
 builtins:env.builtins=j0
 apart:∀x y c,env.cells.lookup x=some c->env.cells.lookup y=some c->x=y
 Hf:∀x c,env.cells.lookup x=some c->env.locals≠c
 EZ:env.kindOf "__classdict__"=none
noncomputable def Dt (B:Base) (env:zv) (h:vW) (x:j7) (v:AV):Prop:=
 (env.kindOf x=some .local/\∃f val,h.Ns env.locals f/\f x=some val/\RV B h val v)\/
 (env.kindOf x≠some .local/\∃c val,env.cells.lookup x=some c/\h.IsCell c (some val)/\RV B h val v)
structure FR (B:Base) (env:zv) (ns:gn) (m:MM) (st:AS) (s:eL):Prop where
 ok:To env ns
 holds:∀(i:Nat) x v,(slots ns)[i]? =some x->m[i]? =some (some v)->Dt B env s.heap x v
 len:m.length=(slots ns).length
 BQ:∃f,s.heap.Ns env.locals f
 E0:¬ic B st env.locals/\B.h₀.get? env.locals=none
 Du:∀x c,env.cells.lookup x=some c->¬ic B st c/\B.h₀.get? c=none/\∃v,s.heap.IsCell c v
 code:BN ns=true->env.code= .ref B.lc/\env.qual=B.EW
variable {ab:zv}
theorem Dt.mono (a:Dt c ab H ao l) (i:∀a o,H.get? a=some o->f_ o->b8.get? a=some o) (m:∀o,H.get? ab.locals=some o->b8.get? ab.locals=some o) (n:∀ao b,ab.cells.lookup ao=some b->∀o,H.get? b=some o->b8.get? b=some o):Dt c ab b8 ao l:=by
 rcases a with ⟨k,f,g,⟨o,p,j,d,r⟩,e,q⟩ |⟨k,b,g,h,⟨o,d,r⟩,q⟩
 .exact .inl (nX k f g ⟨o,p,j,m _ d,r⟩ e (q.mono i))
 .exact .inr (nX k b g h ⟨o,n _ _ h _ d,r⟩ (q.mono i))
variable {e:MM}
theorem FR.step (x:FR c ab v e b m) (r:R c b m) (y:St c b m q ae):FR c ab v e q ae where
 ok:=x.ok
 holds i n h u A:=(x.holds i n h u A).mono (y.frozen r) (λo a=>y.keep _ _ a x.E0.1) (λn j g o a=>y.keep _ _ a (x.Du n j g).1)
 len:=x.len
 BQ:=wY x.BQ λf o z s d w=>⟨f,o,z,s,(y.keep _ _ d x.E0.1),w⟩
 E0:=⟨λf=>(y.foot _ f).elim x.E0.1 (λl=>by
  refine wY x.BQ λf o _ _ a _=>?_
  rw [l] at a;contradiction),x.E0.2⟩
 Du n j g:=by
  refine oJ (x.Du n j g) λk t h o d p=>?_
  exact rH (λf=>(y.foot _ f).elim k (λl=>by rw [l] at d;contradiction)) t h o (y.keep _ _ d k) p
 code:=x.code
inductive k4 (B:Base) (st:AS) (s:eL) (Q:AV->AS->Prop) (v:eH) (s':eL):Prop where
 |mk (x:AV) (st':AS) (h0:RV B s'.heap v x) (h1:R B st' s') (h2:St B st s st' s') (h3:Q x st'):k4 B st s Q v s'
inductive LH (B:Base) (st:AS) (s:eL) (Q:List AV->AS->Prop) (vs:List eH) (s':eL):Prop where
 |mk (xs:List AV) (st':AS) (h0:hX B s'.heap vs xs) (h1:R B st' s') (h2:St B st s st' s') (h3:Q xs st'):LH B st s Q vs s'
inductive Aw (B:Base) (st:AS) (s:eL) (Q:Bool->AS->Prop) (b:Bool) (s':eL):Prop where
 |mk (st':AS) (h0:R B st' s') (h1:St B st s st' s') (h2:Q b st'):Aw B st s Q b s'
noncomputable def Vt:eH->eL->Prop:=λ_ _=>False
noncomputable abbrev WE {α:Type} (B:Base) (A:jc) (t:Ox α) (Q:α->eL->Prop) (s:eL):Prop:=gc (hU B.prog B.w) A t Q Vt s
variable {n:AV->AS->Prop}
theorem post_of (r:R c b m) (g:fI m ae) (q:RV c ae.heap J l) (h:n l b):k4 c b m n J ae:=⟨l,b,q,r.grow g,.grow g,h⟩
theorem k4.trans (y:St c b m q ae) (p:k4 c q ae n J aZ):k4 c b m n J aZ:=let ⟨x,e,a,f,g,d⟩:=p;⟨x,e,a,f,y.trans g,d⟩
open Mine.k4 renaming trans->Ca
theorem Aw.trans (y:St c b m q ae) (p:Aw c q ae bK aw aZ):Aw c b m bK aw aZ:=let ⟨a,aw,e,d⟩:=p;⟨a,aw,y.trans e,d⟩
variable {L:jc} {cC:eH->eL->Prop}
theorem f5 {t:Ox eH} (h:WE c L t (k4 c b ae n) m) (k:∀v f x g,RV c f.heap v x->R c g f->St c b ae g f->n x g->aG v f):gc (hU c.prog c.w) L t aG cC m:=
 er h (λv f q=>let ⟨x,g,a,i,j,d⟩:=q;k v f x g a i j d) λ_ _ e=>e.elim
variable {bL:List AV->AS->Prop}
theorem xf {t:Ox (List eH)} {P:List eH->eL->Prop} (h:WE c L t (LH c b ae bL) m) (k:∀v f x g,hX c f.heap v x->R c g f->St c b ae g f->bL x g->P v f):gc (hU c.prog c.w) L t P aG m:=
 er h (λv f q=>let ⟨x,g,a,i,j,d⟩:=q;k v f x g a i j d) λ_ _ e=>e.elim
variable {cQ:Bool->eL->Prop}
theorem qZ {t:Ox Bool} (h:WE c L t (Aw c b ae bK) m) (k:∀v f a,R c a f->St c b ae a f->bK v a->cQ v f):gc (hU c.prog c.w) L t cQ aG m:=
 er h (λv f q=>let ⟨a,g,i,d⟩:=q;k v f a g i d) λ_ _ e=>e.elim
structure mP (n:Nat) (A:jc):Prop where
 depth:A.depth+10*n<=900
 units:A.units+100*n<=9000
 handled:A.handled=none
theorem mP.le (r:mP a L) (h:d<=a):mP d L:=⟨by have:=r.depth;exact a_ (d7 (gR _ h) _) this,by have:=r.units;exact a_ (d7 (gR _ h) _) this,r.handled⟩
theorem mP.Tp (r:mP a L):L.depth<recursionLimit:=by have:=r.depth;show L.depth<1000;exact r4 this
theorem mP.Ax (r:mP a L):L.units+800<cLine:=by have:=r.units;show L.units+800<9900;exact r3 this
structure Iz (B:Base) (c:Nat) (C:Qp):Prop where
 get:sX B.K (.ref (B.ca c)) "__getattribute__"=some (some (.builtin "object.__getattribute__"))
 G':sX B.K (.ref (B.ca c)) "__getattr__"=some none
 set:sX B.K (.ref (B.ca c)) "__setattr__"=some (some (.builtin "object.__setattr__"))
 plain:SH B.K (B.ca c)=true
 dict:SI B.K (B.ca c)=true
 makes:makesIn B.K (B.ca c)=true
 init:sX B.K (.ref (B.ca c)) "__init__"=some (some (.ref (B.fa C.init)))
 Tq:isFn B.K (.ref (B.fa C.init))=true
 Tr:∀(x:Nat) nm,AT[x]? =some nm->Wn B.K (B.ca c) nm=some none
 name:∀(x:Nat) nm,AT[x]? =some nm->C.meths.lookup x=none->sX B.K (.ref (B.ca c)) nm=some none
 Tt:∀(x:Nat) nm f,AT[x]? =some nm->C.meths.lookup x=some f->sX B.K (.ref (B.ca c)) nm=some (some (.ref (B.fa f)))/\isFn B.K (.ref (B.fa f))=true/\
  (∃g,SG B.K (.ref (B.fa f)) "__get__"=some (some g))/\Wm B.K (.ref (B.fa f))=some false
structure gV (B:Base):Prop where
 Wd:B.K.In B.h₀
 g:B.h₀.Ns iD B.mg
 b:B.h₀.Ns j0 B.mb
 nolimit:B.h₀.NoLimit
 nodigits:∃mc,B.h₀.Ns cStatics mc/\mc "sys.int_max_str_digits"=none
 Tu:∃o,B.h₀.get? z9=some o
 cls:∀c,c<10->∃C,PG.Dn[c]? =some C/\Iz B c C
 IA:∀k,k<82->U3 B.K (.ref (B.fa k))=true
 IB:∀c,c<10->U3 B.K (.ref (B.ca c))=true
 Tw:PG.fns.length=82
 LI:PG.Dn.length=10
 IC:∀x v,h_ GG x=some v->∃val,(B.mg x=some val\/(B.mg x=none/\B.mb x=some val))/\RV B B.h₀ val v
noncomputable def qn (B:Base) (n:Nat):Prop:=∀(f:AV) (args:List AV) (st:AS) (Q:AV->AS->Prop) (A:jc) (fv:eH) (vs:List eH) (s:eL),
 eE PG n f args st Q->mP n A->R B st s->RV B s.heap fv f->hX B s.heap vs args->WE B A (nC fv vs []) (k4 B st s Q) s
noncomputable def SE (B:Base) (n:Nat) (ns:gn) (e:gf) (c:CE):Prop:=∀(A:jc) (env:zv) (m:MM) (st:AS) (s:eL) (Q:AV->AS->Prop),
 mP n A->FR B env ns m st s->R B st s->VE PG (eE PG n) c m st Q->WE B A (vU e env) (k4 B st s Q) s
noncomputable def LJ (B:Base) (n:Nat) (ns:gn) (es:List gf) (cs:wZ):Prop:=∀(A:jc) (env:zv) (m:MM) (st:AS) (s:eL) (Q:List AV->AS->Prop) (pos:EB),
 mP n A->FR B env ns m st s->R B st s->Io PG (eE PG n) cs m st Q->WE B A (R9 (sW pos (nh es env))) (LH B st s λxs st'=>xs.length=cs.len/\Q xs st') s
noncomputable def ST (B:Base) (n:Nat) (ns:gn) (e:gf) (c:CE):Prop:=∀(A:jc) (env:zv) (m:MM) (st:AS) (s:eL) (Q:Bool->AS->Prop),
 mP n A->FR B env ns m st s->R B st s->VT PG (eE PG n) c (VE PG (eE PG n) c) m st Q->WE B A (GR e env (vU e env)) (Aw B st s Q) s
theorem JH:tc=("__debug__":j7):=by unfold tc;exact (by decide+kernel:(⟨⟨[95,95,100,101,98,117,103,95,95]⟩⟩:j7)="__debug__")
theorem LK (h:ao≠tc):(ao==("__debug__":j7))=false:=by
 rw [beq_eq_false_iff_ne,<-JH];exact h
variable {aa:EB}
theorem snd_const {f:Const} (h:Lx f=some l):SE c a v (.Constant f d aa) (.cst l):=by
 intro A j m g s Q k F r e
 induction f with
 |none=>(injection h with h;subst h);exact wpAny_Constant_none (post_of r (hJ _) .none e)
 |bool b=>(injection h with h;subst h);exact wpAny_Constant_bool (post_of r (hJ _) (.bool b) e)
 |int i=>(injection h with h;subst h);exact QR (post_of r (iO _ _) (.int i _) e)
 |str x=>(injection h with h;subst h);exact wpAny_Constant_str (post_of r (iO _ _) (.str x _) e)
 |_=>contradiction
variable {g:CE}
set_option tactic.hygienic true in
theorem xg (l:gV c) (h:uw GG v ao=some g):SE c a v (.Name ao aa) g:=by
 intro A G m M s Q R F r b
 obtain ⟨j,h⟩:=Cn _ h
 have j:=LK j
 rcases h with ⟨n,w,N,rfl⟩ |⟨k,i,n,B,C,rfl⟩
 .obtain ⟨p,d,K⟩:=l.IC ao w N
  have q:RV c s.heap p w:=K.mono λO o e _=>r.old O o e
  refine Name_function_global F.ok.kind (F.ok.glob ao n) ?_ j
  have H:G.globals=mainGlobals:=F.ok.globals
  have L:G.builtins=builtinsNs:=F.ok.builtins
  have E:k4 c M s Q p s:=post_of r (hJ _) q b
  rcases d with d |⟨d,P⟩
  .exact loadGlobal_global (H▸l.g.keeps r.old) d E
  .exact loadGlobal_builtin (H▸l.g.keeps r.old) d (L▸l.b.keeps r.old) P E
 .have D:=pj C
  obtain ⟨w,z,b⟩:=b
  refine wpAny_Name ?_ j
  rcases F.holds i ao w D z with ⟨u,f,p,J,I,q⟩ |⟨u,g,p,y,x,q⟩
  .exact wpAny_loadName_local F.ok.kind u J I (post_of r (hJ _) q b)
  .rcases (F.ok.var ao k n (B.resolve_left λq=>u (F.ok.loc ao (n.trans (congrArg some q))))).1 with t |t
   .exact wpAny_loadName_cell F.ok.kind t y x (post_of r (hJ _) q b)
   .refine wpAny_loadName_free F.ok.kind t y x (post_of r (hJ _) q b) ?_
    rw [beq_eq_false_iff_ne];clear l R r j n C D z b u y x q B;rintro rfl
    rw [F.ok.EZ] at t;contradiction
theorem hY:fF<=sizeLine:=by unfold fF;rw [nD];decide
theorem ik (h:vW):h.get? h.objs.size=none:=by
 induction e:h.get? h.objs.size with
 |none=>rfl
 |some o=>exact absurd (rq e) (jg _)
theorem R.fresh (r:R c b m):b.free m.heap.objs.size/\¬ic c b m.heap.objs.size/\c.h₀.get? m.heap.objs.size=none:=by
 have a:¬ic c b m.heap.objs.size:=λf=>absurd (r.OR f) (jg _)
 refine ⟨⟨?_,λg h d e=>a (.inr (.inl ⟨g,h,d,e⟩))⟩,a,?_⟩
 .induction e:b m.heap.objs.size using d_ with
  |none=>rfl
  |some o=>exact absurd (.inl (by rw [e];simp)) a
 .induction e:c.h₀.get? m.heap.objs.size using d_ with
  |none=>rfl
  |some o=>exact absurd (rq (r.old _ _ e)) (jg _)
theorem R.newList (r:R c b m) {k:Nat} (B:hX c m.heap bf.toList j) (z:j.length<=fF):
 R c (b.set m.heap.objs.size (.list j)) {m with heap:=m.heap.push (listOf bf k)}/\St c b m (b.set m.heap.objs.size (.list j)) {m with heap:=m.heap.push (listOf bf k)}:=by
 refine mW r.fresh λf A E=>?_
 have g:=jw m (listOf bf k)
 have D:m.heap.objs.size≠c.tab:=λe=>A (.inr (.inr e))
 have u:∀d,ic c (b.set m.heap.objs.size (.list j)) d->ic c b d\/d=m.heap.objs.size:=by
  rintro d (h |⟨a,s,p,h⟩ |h)
  .by_cases i:d=m.heap.objs.size
   .exact .inr i
   .rw [gw i] at h;exact .inl (.inl h)
  .by_cases l:a=m.heap.objs.size
   .subst l;rw [gX] at h;(injection h;contradiction)
   .rw [gw l] at h;exact .inl (.inr (.inl (qA a s p h)))
  .exact .inl (.inr (.inr h))
 refine ⟨⟨λa o e=>?_,λd o e=>g.keep _ _ (r.old d o e),λd i=>?_,λa s t p e=>?_,?_,?_,r.gens,r.os⟩,g.keep|>λk=>⟨λd o e _=>k d o e,λd i=>?_⟩⟩
 .by_cases l:a=m.heap.objs.size
  .subst l;rw [gX] at e;(injection e with e;subst e)
   exact .list (eW _ rfl) (B.grow g) z
  .rw [gw l] at e;exact (r.objs a o e).grow g
 .rcases u d i with h |rfl
  .exact r.new d h
  .exact E
 .have l:a≠m.heap.objs.size:=λq=>by subst q;rw [gX] at e;(injection e;contradiction)
  rw [gw l] at e
  refine mW (r.Cq a s t p e) λC x w=>?_
  have v:t≠m.heap.objs.size:=λq=>f.2 a s p (q▸e)
  refine iz (by rw [gw v];exact C) x (λd F y n=>?_)
  by_cases i:d=m.heap.objs.size
  .subst i;rw [gX] at n;(injection n;contradiction)
  .rw [gw i] at n;exact w d F y n
 .rw [gw (nA D)];exact r.vB
 .exact r.tab.mono (λa o e _=>g.keep a o e) λo e=>g.keep _ o e
 .rcases u d i with h |rfl
  .exact .inl h
  .exact .inr (ik _)
theorem nZ (r:R c b m) (g:hX c m.heap bf.toList j) (e:j.length<=fF) (h:∀d,b.free d->n (.ref d) (b.set d (.list j))):k4 c b m n (.ref m.heap.objs.size) {m with heap:=m.heap.push (listOf bf a)}:=
 let ⟨f,i⟩:=r.newList (k:=a) g e
 ⟨.ref _,_,.ref _,f,i,h _ r.fresh.1⟩
theorem uz (r:R c b m) (d:hX c m.heap bf.toList j) (e:j.length<=fF) (h:n (.tup j) b):k4 c b m n (.ref m.heap.objs.size) {m with heap:=m.heap.push (gu "tuple" bf a)}:=
 post_of r (jw _ _) (.tup (eW _ rfl) (by rw [<-eB,d.length];exact e) (d.grow (jw _ _))) h
theorem xh (q:RO c H z (.list j)):∃a k,H.get? z=some (listOf a k)/\hX c H a.toList j/\j.length<=fF:=by
 cases q with
 |list e r l=>exact nu _ _ e r l
theorem OS {B:Base} {h:vW} {items:Array eH} {xs:List AV} (r:hX B h items.toList xs):∀k:Nat,
 hX B h (UG (λx1 x2=>x1++x2) #[] (gm k items)).toList (gm k xs).flatten:=by
 have key:∀(k:Nat) (acc:Array eH) (ys:List AV),hX B h acc.toList ys->hX B h (UG (λx1 x2=>x1++x2) acc (gm k items)).toList (ys++(gm k xs).flatten):=by
  intro k
  induction k with
  |zero=>intro acc ys q;simpa using q
  |succ k ih=>
   intro acc ys q
   rw [wG,List.foldl_cons,wG,La,<-eC]
   exact ih _ _ (by rw [oC];exact q.append r)
 intro k
 simpa using key k #[] [] .nil
theorem LL (h:p.natAbs<2 ^ 60\/aB.natAbs<2 ^ 60):IntMulOk p aB:=by
 have a:∀k:Int,k.natAbs<2 ^ 60->Builtin.Int.intBits k<=64:=λk b=>by
  unfold Builtin.Int.intBits
  split
  .exact fy 64
  .have:k.natAbs.log2<60:=(Nat.log2_lt (by rename_i e;simpa using e)).mpr b
   exact a_ this (by decide)
 rcases h with h |h
 .exact .of_left (a _ h)
 .exact .of_right (a _ h)
variable {aV:gY}
theorem OT {e:Array eH} (r:R c b m) (f:m.heap.get? z=some (gu "tuple" bf a)) (g:m.heap.get? aV=some (gu "tuple" e d)) (q:hX c m.heap bf.toList j) (s:hX c m.heap e.toList aN) (l:j.length+aN.length<=fF) (h:n (.tup (j++aN)) b):
 WE c L (binaryOp .Add (.ref z) (.ref aV)) (k4 c b m n) m:=by
 have i:bf.size=j.length:=by rw [<-q.length,eB]
 have k:e.size=aN.length:=by rw [<-s.length,eB]
 have u:bf.size+e.size<=sizeLine:=a_ (by exact ad l i k) hY
 by_cases o:bf.isEmpty=true
 .have t:j=[]:=by
   have:bf.size=0:=by simpa [wI] using o
   exact gU.mp (by exact i.symm.trans this)
  refine Wk (ej _ f rfl) (ej _ g rfl) SA VR QX Qe (Oz _ _) (AutoSeq1.tuple___add___tuple_tuple_0 z bf a aV e d o) (iz f g ?_)
  exact post_of r (iO _ _) (.tup g (by exact a_ (df _ _) (ad l i k)) (by rw [t];exact s)) h
 .by_cases p:e.isEmpty=true
  .have v:aN=[]:=by
    have:e.size=0:=by simpa [wI] using p
    exact gU.mp (by exact k.symm.trans this)
   refine Wk (ej _ f rfl) (ej _ g rfl) SA VR QX Qe (Oz _ _) (AutoSeq1.tuple___add___tuple_tuple_1 z bf a aV e d o p) (iz f g ?_)
   exact post_of r (iO _ _) (.tup f (by exact a_ (eh _ _) (ad l i k)) (by rw [v,eR];exact q)) h
  .refine P.add_tuple f g o p ?_ u
   exact uz r (by rw [oC];exact q.append s) (by rw [bh];exact l) h
variable {cD:Operator}
theorem ID (h:Th cD=some .add):cD= .Add:=by rcases cD with ⟨⟩<;>first |rfl |contradiction |(injection h;contradiction)
theorem OU (h:Th cD=some .mul):cD= .Mult:=by rcases cD with ⟨⟩<;>first |rfl |contradiction |(injection h;contradiction)
variable {bM:Sk} {aT:eH}
theorem LM (d:Th cD=some bM) (r:R c b m) (w:RV c m.heap J l) (x:RV c m.heap aT af) (h:Aj b n bM l af):
 WE c L (binaryOp cD J aT) (k4 c b m n) m:=by
 induction h using Aj.casesOn with
 |int f h=>
  refine rX J (gp w) λt=>?_
  refine rX aT (gp x) λu=>?_
  have g:=post_of (c:=c) r (iO m (m.toks+1)) (.int _ m.toks) h
  clear r h w x;induction cD using Operator.casesOn with
  |Add=>(injection d with d;subst d);(injection f with f;subst f);exact wpAny_add_int g
  |Sub=>(injection d with d;subst d);(injection f with f;subst f);exact sub_int g
  |Mult=>(injection d with d;subst d);refine iK (Lu f) λj s=>?_;clear f;subst s;exact mul_int g (LL j)
  |Mod=>(injection d with d;subst d);refine iK (V_ f) λj s=>?_;clear f;subst s;exact mod_int j g
  |BitAnd=>
   (injection d with d;subst d);refine iK (Lu f) λj s=>?_;clear f;subst s
   refine and_int ?_
   unfold Builtin.bitAnd
   rw [decide_eq_true j.1,decide_eq_true j.2]
   exact g
  |FloorDiv=>(injection d with d;subst d);refine iK (V_ f) λj s=>?_;clear f;subst s;exact floordiv_int (λe=>j (.inl e)) g (.inl (PyProof.noPylong_small (gG (x8.mp λq=>j (.inr q)) (by decide))))
  |_=>contradiction
 |cat z h=>
  refine g5 J (iB w) λa Y k S D o=>?_
  refine g5 aT (iB x) λK Z W f Q C=>?_
  obtain rfl:=ID d
  exact OT r S f o C z h
 | @app a K G ys y N z h=>
  obtain rfl:=gN w
  obtain rfl:=gN x
  obtain rfl:=ID d
  refine jS (xh (r.objs a _ y)) λv k p o D=>?_
  refine jS (xh (r.objs K _ N)) λkl W O C Q=>?_
  refine P.add_list p O ?_ (a_ ?_ hY)
  .exact nZ r (by rw [oC];exact o.append C) (by rw [bh];exact z) h
  .rw [<-eB,o.length,<-eB,C.length];exact z
 | @rep a i G y f A h=>
  obtain rfl:=gN w
  refine rX aT (gp x) λu=>?_
  obtain rfl:=OU d
  refine jS (xh (r.objs a _ y)) λv k p o D=>?_
  have E:v.size=G.length:=by rw [<-o.length,eB]
  have I:=A
  unfold fF at f A
  have H:v.size*i.toNat<=100000:=by rw [E];exact A
  refine wpAny_binaryOp_repeat_ref (T:="list") (U:="int") (by decide) (ej _ p rfl) (λV=>YB V i u) noFill_list_mul F.fills_int_mul Sf repeat_list F.slot_int_index.lookup
   (vV Sf (YB m i u) F.entry_int_rmul (F.args_int_rmul_2 _ _) (int___rmul___int_list i u a v k)
    ⟨p,rfl,(ej _ p rfl),vV F.slot_list_mul (ej _ p rfl) F.entry_list_mul (F.args_list_mul_2 _ _)
     (Wt a v k i u (by simp [Up];exact Q8 (a_ f (by decide))) (by exact iY.mpr (a_ H (by decide))) (by simp [yU,x6];exact a_ H (by decide))) ⟨p,?_⟩⟩)
  refine nZ r ?_ ?_ h
  .induction M:v.isEmpty using j5 with
   |true=>
    have X:G=[]:=gU.mp (by
     have:v.size=0:=by simpa [wI] using M
     exact E.symm.trans this)
    clear r y f A h w x d p o D E I H M;subst X
    simp only [if_true]
    rw [show (gm i.toNat ([]:List AV)).flatten=[] from by simp]
    exact .nil
   |false=>simpa using OS o i.toNat
  .rw [List.length_flatten,xV,List.sum_replicate_nat,Nat.mul_comm];exact I
variable {bN:Bool}
theorem oW (h:aw=true↔y) (a:bN=true↔y):aw=bN:=by
 rcases aw with ⟨⟩<;>cases bN<;>simp_all
theorem IE (b:mP a L) (c:Plain l):L.units+min (toPy l).depth (toPy af).depth<cLine:=by
 have:=(iu c).2
 have:=b.Ax
 exact um (aI:=6) this (by assumption) rfl
theorem q0 (r:R c b m) (e:b z=some (.list j)) (a:∀x∈j,Plain x):
 (∃d,Yy m.heap (.ref z) (.list (jW j)) d)/\xS (jW j)=true/\qp (jW j)<=6:=by
 refine jS (xh (r.objs z _ e)) λf k g q l=>?_
 refine j_ (xd a q) λd p=>?_
 exact ⟨⟨_,.list g rfl rfl p⟩,v9 a⟩
noncomputable def q5 (B:Base):Prop:=∀(n:Nat) (A:jc) (st:AS) (s:eL) (a a':gY) (b:Bool) (Q:eH->eL->Prop) (kvs lvs:List (AV×AV)),
 mP n A->R B st s->st a=some (.dict kvs)->st a'=some (.dict lvs)->Eqv st (.ref a) (.ref a') b->
 ((∀s',fI s s'->Q (.bool b) s')->WE B A (qQ .Eq (.ref a) (.ref a')) Q s)/\((∀s',fI s s'->Q (.bool (!b)) s')->WE B A (qQ .NotEq (.ref a) (.ref a')) Q s)
set_option tactic.hygienic true in
theorem IF (A:q5 c) (o:mP a L) (r:R c b m) (k:RV c m.heap J l) (p:RV c m.heap aT af) (e:Eqv b l af aw):
 ((∀n,fI m n->aG (.bool aw) n)->WE c L (qQ .Eq J aT) aG m)/\((∀n,fI m n->aG (.bool (!aw)) n)->WE c L (qQ .NotEq J aT) aG m):=by
 have B:=o.Ax
 cases e with
 |bool O d=>
  obtain rfl:=xb k;obtain rfl:=xb p
  refine ⟨λh=>eq_bool (h m (hJ _)),λh=>?_⟩
  exact ne_bool (h m (hJ _))
 |plain g q aw t=>
  obtain ⟨I,i⟩:=jX g k
  obtain ⟨M,j⟩:=jX q p
  have e:mT (toPy l) (toPy af)=aw:=oW (xe g q) t
  exact ⟨λh=>compareEq_reads i j (iu g).1 (iu q).1 (IE o g) (e▸h m (hJ _)),
   λh=>compareNe_reads i j (iu g).1 (iu q).1 (IE o g) (e▸h m (hJ _))⟩
 |list h f y u aw t=>
  rename_i s G
  have:=gN k;subst this
  have:=gN p;subst this
  obtain ⟨⟨I,i⟩,v,E⟩:=q0 r h y
  obtain ⟨⟨M,j⟩,x,N⟩:=q0 r f u
  have e:mT (.list (jW s)) (.list (jW G))=aw:=oW (show sk _ _=true↔_ from EY y u) t
  have w:∀z:Nat,L.units+min (Eo (.list (jW s))) z<cLine:=λz=>by
   have:Eo (.list (jW s))=qp (jW s)+1:=rfl
   exact um B (n1 this (fh E)) rfl
  exact ⟨λh=>compareEq_reads i j v x (w _) (e▸h m (hJ _)),λh=>compareNe_reads i j v x (w _) (e▸h m (hJ _))⟩
 |Ij h C f=>
  have:=gN k;subst this
  have:=gN p;subst this
  exact A a L b m _ _ _ aG _ _ o r h f (.Ij h C f)
 |Ik h f H F K D=>
  have:=gN k;subst this
  have:=gN p;subst this
  exact A a L b m _ _ _ aG _ _ o r h f (.Ik h f H F K D)
theorem R.isList (r:R c b m) (e:b z=some (.list j)):∃a k,m.heap.get? z=some (listOf a k)/\hX c m.heap a.toList j/\j.length<=fF/\m.heap.IsList z a/\a.size=j.length:=by
 refine jS (xh (r.objs z _ e)) λa k g q l=>?_
 exact qV a k g q l ⟨_,g,rfl,_,rfl⟩ (by rw [<-q.length,eB])
theorem R.oQ (r:R c b m) (e:b z=some (.dict aC)):RD c m.heap z aC/\aC.length<=fF:=by
 cases r.objs z _ e with
 |dict d l=>exact ⟨d,l⟩
theorem R.uA (a:gV c) (r:R c b m) (e:b z=some ay):(z==z9)=false:=by
 rw [beq_eq_false_iff_ne];intro d;subst d
 obtain ⟨f,h⟩:=a.Tu
 have:=r.new z9 (.inl (by rw [e];simp))
 rw [this] at h;contradiction
theorem y9 {b:Array h} {c:List t} (a:b.size=c.length):b.isEmpty=c.isEmpty:=by
 induction c using el with
 |nil=>simp at a;simp [a]
 |cons y r=>induction d:b.isEmpty using j5 with
  |false=>rfl
  |true=>
   have:b.size=0:=by simpa [wI] using d
   rw [this] at a;simp at a
theorem th (r:R c b m) (j:RV c m.heap J l) (h:nN b l aw) (d:∀n,fI m n->cQ aw n):WE c L (EA J) cQ m:=by
 induction h using nN.casesOn with
 |none=>obtain rfl:=qE j;exact truthy_none (d _ (hJ _))
 |bool w=>obtain rfl:=xb j;exact oq (d _ (hJ _))
 |int i=>
  refine rX J (gp j) λt=>?_
  refine Uw ?_
  rw [show (i !=0)=decide (i≠0) by by_cases e:i=0<;>simp [e]]
  exact d _ (hJ _)
 |tup s=>
  refine g5 J (iB j) λa u k e f q=>?_
  refine truthy_tuple (sY _ e rfl _ rfl) (by unfold fF at f;exact JB f) ?_
  rw [y9 (c:=s) (by rw [<-q.length,eB])]
  exact d _ (iO _ _)
 |list e=>
  obtain rfl:=gN j
  refine gq (r.isList e) λv k g q f p o=>?_
  refine wpAny_truthy_list p (by unfold fF at f;exact JB (n1 o f)) ?_
  rw [y9 o]
  exact d _ (iO _ _)
theorem LN (b:RV c m.heap J l) (h:l≠.none) (a:∀n,l≠.bi n):plainIs J .none=true/\(J==.none)=false:=by
 induction b using RV.casesOn with
 |none=>exact absurd rfl h
 |bi n=>exact absurd rfl (a n)
 |_=>exact ⟨rfl,rfl⟩
variable {cE:List (Int×eH)}
theorem n0 (e:aC.map (·.1)=cE.map (λa=>.int a.1)):(jm cE p).isSome=true↔AV.int p∈aC.map (·.1):=by
 rw [e]
 simp only [jm,Jt,Lb,decide_eq_true_eq,ck]
 exact ⟨λc=>eS c λa b q=>(ej a b (by rw [q])),λc=>eS c λa b q=>(ej a b (by injection q))⟩
theorem ti {a:List (AV×gY×eH)} (e:aC.map (·.1)=a.map (·.1)):(Sb a l).isSome=true↔l∈aC.map (·.1):=by
 rw [e]
 simp only [Sb,Jt,Lb,decide_eq_true_eq,ck]
theorem vf (b:mP a L):(tupK c).room L.in1:=by
 have:=b.Ax
 show L.in1.units+100<vy
 exact (ul 101 this rfl:)
theorem LO (F:gV c) (A:mP a L) (r:R c b m) (o:RV c m.heap J l) (y:RV c m.heap aT af) (e:Cg b l af aw):
 ((∀x,fI m x->aG (.bool aw) x)->WE c L (qQ .In J aT) aG m)/\((∀x,fI m x->aG (.bool (!aw)) x)->WE c L (qQ .NotIn J aT) aG m):=by
 have s:=A.Ax
 induction e with
 |list f h n aw p=>
  have:=gN y;clear F A y;subst this
  refine mW (q0 r h n) λv D E=>?_;refine j_ v λK u=>?_
  refine j_ (jX f o) λM w=>?_
  have e:=oW (Iu f n) p
  have j:=(iu f).2
  exact ⟨λh=>in_list_reads u w D (iu f).1 (by exact Vc s E rfl) (e▸h m (hJ _)),λh=>notIn_list_reads u w D (iu f).1 (by exact Vc s E rfl) (e▸h m (hJ _))⟩
 |tup f n aw p=>
  refine g5 aT (iB y) λI G k g C q=>?_
  refine j_ (xd n q) λK u=>?_
  refine j_ (jX f o) λM w=>?_
  have e:=oW (Iu f n) p
  have j:=(iu f).2
  exact ⟨λh=>in_tuple_reads (.tuple g rfl rfl u) w (v9 n).1 (iu f).1 (by exact VZ s j rfl) (e▸h m (hJ _)),
   λh=>notIn_tuple_reads (.tuple g rfl rfl u) w (v9 n).1 (iu f).1 (by exact VZ s j rfl) (e▸h m (hJ _))⟩
 |dict h f aw p=>
  have:=gN y;clear s y;subst this
  have z:=r.uA F h
  refine iK (r.oQ h) λd C=>?_
  rcases f with ⟨⟨i,rfl⟩,H⟩ |⟨B,N⟩
  .refine gj (d.GN H) λQ j q e=>?_
   refine rX J (gp o) λt=>?_
   have e:=oW (n0 e) p
   exact ⟨λh=>wpAny_in_of (pI _ _ i t) z j.dictOf.mapOf (e▸h _ (iO _ _)),λh=>wpAny_notIn_of (pI _ _ i t) z j.dictOf.mapOf (e▸h _ (iO _ _))⟩
  .refine gj (d.Vs N) λO j q e=>?_
   refine j_ B.1 λS v=>?_;subst v
   refine mX (iB o) λI G k v g C P=>?_;subst v
   have e:=oW (ti e) p
   exact ⟨λh=>wpAny_in_heap (knd:=tupK c) (vf A) ⟨B,o⟩ z j (e▸h _ (iO _ _)),λh=>wpAny_notIn_heap (knd:=tupK c) (vf A) ⟨B,o⟩ z j (e▸h _ (iO _ _))⟩
noncomputable def Vu:Og->Et
 | .eq=>.Eq | .ne=>.NotEq | .lt=>.Lt | .le=>.LtE | .gt=>.Gt | .ge=>.GtE | .Tb=>.In | .Cf=>.NotIn | .Sl=>.Is | .Tc=>.IsNot
theorem LP (a:Et):a=Vu (zD a):=by rcases a with ⟨⟩<;>rfl
theorem vg (z:gV c) (A:q5 c) (s:mP a L) (r:R c b m) {q:Et} {P:Bool->Prop} (k:RV c m.heap J l) (n:RV c m.heap aT af) (h:pW b P (zD q) l af):
 WE c L (qQ q J aT) (λB p=>∃y,B= .bool y/\fI m p/\P y) m:=by
 rw [LP q]
 generalize zD q=o at h⊢
 induction h with
 |eq e d=>exact (IF A s r k n e).1 λp g=>gr _ rfl g d
 |ne e d=>exact (IF A s r k n e).2 λp g=>gr _ rfl g d
 |Tb e d=>exact (LO z s r k n e).1 λp g=>gr _ rfl g d
 |Cf e d=>exact (LO z s r k n e).2 λp g=>gr _ rfl g d
 |Vo d=>obtain rfl:=qE k;obtain rfl:=qE n;exact UX rfl (gr _ rfl (hJ _) d)
 |Td d=>obtain rfl:=qE k;obtain rfl:=qE n;exact R4 rfl (gr _ rfl (hJ _) d)
 |Xh h w d=>
  obtain rfl:=qE n
  refine iK (LN k h w) λx v=>?_
  exact UX x (gr _ rfl (hJ _) (v▸d))
 |Te h w d=>
  obtain rfl:=qE n
  refine iK (LN k h w) λx v=>?_
  exact R4 x (gr _ rfl (hJ _) (by rw [v];exact d))
 | @ord o i j y f d=>
  refine rX J (gp k) λt=>?_
  refine rX aT (gp n) λu=>?_
  induction o with
  |lt=>(injection f with f;subst f);exact Ux (gr _ rfl (hJ _) d)
  |le=>(injection f with f;subst f);exact Uy (gr _ rfl (hJ _) d)
  |gt=>(injection f with f;subst f);exact Uz (gr _ rfl (hJ _) d)
  |ge=>(injection f with f;subst f);exact UA (gr _ rfl (hJ _) d)
  |_=>contradiction
noncomputable def pN:AV->Option Int
 | .int i=>some i
 |_=>none
noncomputable def nv (p:Option Int):Nat:=match p with |some i=>i.toNat |none=>0
noncomputable def pX (p:Option Int) (n:Nat):Nat:=match p with |some i=>i.toNat |none=>n
noncomputable def r7 (p:Option Int):Prop:=∀i,p=some i->0<=i
set_option tactic.hygienic true in
theorem Ay (h:cut j l af=some aN):(l= .none\/∃i,l= .int i)/\(af= .none\/∃i,af= .int i)/\r7 (pN l)/\r7 (pN af)/\aN=(j.take (pX (pN af) j.length)).drop (nv (pN l)):=by
 have b:∀{p:Option Int},p=none->r7 p:=λe i q=>by rw [e] at q;contradiction
 have a:∀{i:Int},0<=i->r7 (some i):=λh d e=>d5 e▸h
 induction l using AV.casesOn with
 |none=>
  induction af using AV.casesOn with
  |none=>exact ⟨.inl rfl,.inl rfl,b rfl,b rfl,(d5 h).symm.trans (N5 ..).symm⟩
  |int i=>exact iK (Lu h) λz e=>⟨.inl rfl,.inr ⟨_,rfl⟩,b rfl,a z,e.symm⟩
  |_=>contradiction
 |int c=>
  induction af using AV.casesOn with
  |none=>exact iK (Lu h) λz e=>⟨.inr ⟨_,rfl⟩,.inl rfl,a z,b rfl,e.symm.trans (congrArg (v3 c.toNat) (N5 ..).symm)⟩
  |int i=>exact iK (Lu h) λz e=>⟨.inr ⟨_,rfl⟩,.inr ⟨_,rfl⟩,a z.1,a z.2,e.symm⟩
  |_=>contradiction
 |_=>contradiction
theorem Dv (l:List h) (a b:Nat):(l.drop (min a l.length)).take (min b l.length -min a l.length)=(l.take b).drop a:=by
 rw [B9]
 rcases ui a l.length with c |c
 .rw [j3 c]
  rcases ui b l.length with d |d
  .rw [j3 d]
  .rw [tW d,m_ (gv ey),m_ (n1 ey (Nat.sub_le_sub_right d _))]
 .rw [tW c,GL c,GL (eJ _),QZ,QZ]
theorem qM (q:RV c H J l) (a:l= .none\/∃i,l= .int i):K8 J (pN l):=by
 rcases a with rfl |⟨i,rfl⟩
 .obtain rfl:=qE q;exact .none
 .refine rX J (gp q) λt=>?_;exact .int i t
variable {cR cS:Option Int}
theorem vL (a:Array eH) (b:r7 cR) (c:r7 cS):KN a cR cS none=((a.toList.take (pX cS a.size)).drop (nv cR)).toArray:=by
 have e:ua cR cS none a.size=(((min (nv cR) a.size:Nat):Int),((min (pX cS a.size) a.size:Nat):Int),1):=by
  simp only [ua,KQ,show (1:Int)>0 by decide,if_true]
  congr 1
  .cases cR with
   |none=>simp [nv]
   |some i=>
    have:=b i rfl
    simp only [nv,if_neg (show ¬i<0 by exact oB (b i rfl))];exact V7 this
  .congr 1
   cases cS with
   |none=>simp [pX]
   |some i=>
    have:=c i rfl
    simp only [pX,if_neg (show ¬i<0 by exact oB (c i rfl))];exact V7 this
 unfold KN
 rw [e]
 simp only [sliceRange_one,pick_run]
 rw [<-Dv,eB]
theorem yg {Q:Int×Int×Nat->eL->Prop} (q:m.heap.IsSliceOf z J aT .none) (o:K8 J cR) (w:K8 aT cS) (j:r7 cR) (n:r7 cS) (h:Q (((min (nv cR) a:Nat):Int),1,min (pX cS a) a -min (nv cR) a) m):
 WE c L (wN (.ref z) (pure (a:Int))) Q m:=by
 refine gj (id q) λy f A d=>?_
 have l:∀{v:eH} {r:Option Int} {k:Option Int->eL->Prop},K8 v r->k r m->WE c L (SN v) k m:=λu h=>by
  induction u with
  |none=>exact U6 h
  |int i t=>exact slicePart_int h
 unfold wN SP
 refine b5 (b5 (t9 f d (x:=J) rfl (b5 (t9 f d (x:=aT) rfl (b5 (t9 f d (x:=.none) rfl (dk ?_)))))))
 refine b5 (U6 ?_)
 show gc _ _ (if ((1:Int)==0)=true then _ else _) _ _ m
 rw [if_neg (by decide)]
 refine b5 (l o (b5 (l w (b5 (dk ?_)))))
 show gc _ _ (match qf cR cS 1 (a:Int) with |(g,p)=>pure (g,(1:Int),nz g p 1)) _ _ m
 have e:qf cR cS 1 (a:Int)=(((min (nv cR) a:Nat):Int),((min (pX cS a) a:Nat):Int)):=by
  unfold qf
  simp only [show ¬((1:Int)<0) by decide,if_false]
  congr 1
  .cases cR with
   |none=>simp [nv]
   |some i=>
    have:=j i rfl
    simp only [nv,if_neg (show ¬i<0 by exact oB (j i rfl))];exact Vd this
  .cases cS with
   |none=>simp [pX]
   |some i=>
    have:=n i rfl
    simp only [pX,if_neg (show ¬i<0 by exact oB (n i rfl))];exact Vd this
 rw [e]
 have s:nz ((min (nv cR) a:Nat):Int) ((min (pX cS a) a:Nat):Int) 1=min (pX cS a) a -min (nv cR) a:=by
  unfold nz
  simp only [show (1:Int)>0 by decide,if_true,pM]
  by_cases b:((min (pX cS a) a:Nat):Int)>(min (nv cR) a:Nat)
  .rw [if_pos b];exact W5
  .rw [if_neg b];exact W6 b
 show gc _ _ (pure (((min (nv cR) a:Nat):Int),(1:Int),nz ((min (nv cR) a:Nat):Int) ((min (pX cS a) a:Nat):Int) 1)) _ _ m
 rw [s]
 exact dk h
theorem xj (j:m.heap.get? z=some (gu "tuple" bf a)) (i:m.heap.IsSliceOf aV J aT .none) (l:K8 J cR) (s:K8 aT cS) (r:r7 cR) (u:r7 cS) (w:(bf.toList.take (pX cS bf.size)).drop (nv cR)=bf.toList->aG (.ref z) m) (h:aG (.ref m.heap.objs.size) {m with heap:=m.heap.push (gu "tuple" ((bf.toList.take (pX cS bf.size)).drop (nv cR)).toArray 0)}) (v:bf.size<=x6):WE c L (yR (.ref z) (.ref aV)) aG m:=by
 have d:IsTup m.heap z bf:=sY _ j rfl _ rfl
 have q:m.TypeIs (.ref z) "tuple":=ej _ j rfl
 refine gj (id i) λo t p x=>?_
 have k:m.TypeIs (.ref aV) "slice":=ej o t p
 have f:sizeOk (.seq ((bf.toList.take (pX cS bf.size)).drop (nv cR)).toArray):=by
  show ((bf.toList.take (pX cS bf.size)).drop (nv cR)).toArray.size<=x6
  rw [j4,ey,fS,eB]
  exact a_ (jQ _ _) (a_ (qg _ _) v)
 unfold yR
 try with_reducible refine f6 ?_
 first |refine b5 (dk ?_) |skip
 refine b5 (t8 d.typeIs (by decide) ?_)
 refine b5 (pR (name:=iV "__getitem__") d.typeIs Aa
  (ng Aa d.typeIs entry_tuple_getitem ?_ (args_tuple_getitem _ _)))
 show gc _ _ (wM (.ref z)>>= _) _ _ m
 refine b5 (tupleItemsOf_ d ?_)
 refine b5 (so k ?_)
 rw [if_pos (by decide)]
 refine b5 (yg i l s r u ?_)
 have n:((eQ (min (pX cS bf.size) bf.size -min (nv cR) bf.size)).filterMap λ(a:Nat)=>bf[(((min (nv cR) bf.size:Nat):Int)+(a:Int)*1).toNat]?).toArray=((bf.toList.take (pX cS bf.size)).drop (nv cR)).toArray:=by
  have e:(λ(a:Nat)=>bf[(((min (nv cR) bf.size:Nat):Int)+(a:Int)*1).toNat]?)=λa=>bf[min (nv cR) bf.size+a]? :=by
   funext a
   have:(((min (nv cR) bf.size:Nat):Int)+(a:Int)*1).toNat=min (nv cR) bf.size+a:=by exact WV
   rw [this]
  rw [e]
  have:=pick_run bf (min (nv cR) bf.size) (min (pX cS bf.size) bf.size -min (nv cR) bf.size)
  rw [KU] at this
  rw [<-Dv,eB,<-this]
  rfl
 show gc _ _ (if (((min (nv cR) bf.size:Nat):Int)==0&&(1:Int)==1&&(min (pX cS bf.size) bf.size -min (nv cR) bf.size)==bf.size)=true then _ else _) _ _ m
 by_cases b:(((min (nv cR) bf.size:Nat):Int)==0&&(1:Int)==1&&(min (pX cS bf.size) bf.size -min (nv cR) bf.size)==bf.size)=true
 .rw [if_pos b]
  simp only [eV,beq_iff_eq] at b
  have g:=w (by rw [<-Dv,eB,b.2,show min (nv cR) bf.size=0 by exact Int.ofNat_eq_zero.mp b.1.1,rF,m_ (by simp)])
  unfold SM
  refine b5 (b5 (so q (dk ?_)))
  rw [if_pos (by decide)]
  refine b5 (nF ?_)
  first
   |exact dk (ej _ rfl (dk g))
   |exact b5 (dk (dk ⟨_,rfl,dk g⟩))
   |exact b5 (dk ⟨_,rfl,dk g⟩)
 .rw [if_neg b,n]
  first
   |exact b5 (m:=nG _) (ko (dk (ej _ rfl (dk h))) f)
   |exact b5 (m:=nG _) (ko (b5 (dk (dk ⟨_,rfl,dk h⟩))) f)
   |exact b5 (b5 (m:=nG _) (ko (dk (dk ⟨_,rfl,dk h⟩)) f))
   |exact b5 (b5 (m:=nG _) (ko (dk ⟨_,rfl,dk h⟩) f))
variable {cT:eH} {b7:AV}
theorem LQ (r:R c b m) (p:RV c m.heap J l) (D:m.heap.IsSliceOf z aT cT .none) (C:RV c m.heap aT af) (B:RV c m.heap cT b7) (h:G8 b n l af b7):
 WE c L (yR J (.ref z)) (k4 c b m n) m:=by
 cases h with
 | @tup d F _ _ i h=>
  refine g5 J (iB p) λa I H e j q=>?_
  refine qk (Ay i) λy v u w t=>?_;clear p i;subst t
  have f:I.size=d.length:=by rw [<-q.length,eB]
  have x:((d.take (pX (pN b7) d.length)).drop (nv (pN af))).length<=fF:=by rw [ey,fS];exact a_ (jQ _ _) (a_ (qg _ _) (n1 f.symm j))
  refine xj e D (qM C y) (qM B v) u w (λG=>?_) ?_ (a_ j hY)
  .refine post_of r (hJ _) (.tup e j ?_) h
   have:=((q.take (pX (pN b7) d.length)).drop (nv (pN af)))
   rw [f] at G;rwa [G] at this
  .exact uz r (by rw [f];exact (q.take _).drop _) x h
 | @list a d F _ _ e i h=>
  obtain rfl:=gN p
  refine qk (Ay i) λy v u w t=>?_;clear i p;subst t
  refine gq (r.isList e) λs H g q j N f=>?_
  have x:((d.take (pX (pN b7) d.length)).drop (nv (pN af))).length<=fF:=by rw [ey,fS];exact a_ (jQ _ _) (a_ (qg _ _) j)
  refine uf N D (qM C y) (qM B v) .none (by simp) ?_ (a_ (by exact n1 f j) hY)
  rw [vL s u w]
  exact nZ r (a:=0) (by rw [f];exact (q.take _).drop _) x h
 | @BM d F _ _ i h=>
  refine Lm J (LA p) λa s M=>mW M λA K E=>?_
  have e:m.heap.IsList a s:=by refine eS A λo A O=>?_;exact ej o (r.old _ _ A) O
  refine qk (Ay i) λy v u w t=>?_;clear p i A;subst t
  have q:hX c m.heap s.toList (d.map AV.int):=LD K
  have f:s.size=(d.map AV.int).length:=by rw [<-q.length,eB]
  have x:(((d.map AV.int).take (pX (pN b7) (d.map AV.int).length)).drop (nv (pN af))).length<=fF:=by rw [ey,fS];exact a_ (jQ _ _) (a_ (qg _ _) (n1 f.symm E))
  refine uf e D (qM C y) (qM B v) .none (by simp) ?_ (a_ (by exact E) hY)
  rw [vL s u w]
  exact nZ r (a:=0) (by rw [f];exact (q.take _).drop _) x h
theorem BR (a:Array eH):KN a none none (some (-1))=a.toList.reverse.toArray:=by
 have e:ua none none (some (-1)) a.size=((a.size:Int) -1,-1,-1):=by
  simp [ua]
 unfold KN
 rw [e]
 congr 1
 have g:YC ((a.size:Int) -1) (-1) (-1)=(eQ a.size).map λ(k:Nat)=>(a.size -1 -k:Nat):=by
  unfold YC
  simp only [show ¬((-1:Int)>0) by decide,if_false]
  by_cases h:(a.size:Int) -1> -1
  .have e:(((a.size:Int) -1 - -1 - -1 -1) / - -1).toNat=a.size:=by simp
   simp only [h,if_true,e]
   apply fm
   intro k b
   have:=eU.mp b
   exact Vg this
  .have:a.size=0:=z0 h
   simp [this]
 rw [g,KU]
 apply yY
 intro i
 have m:(vI ((λx=>a[x]?)∘λk=>a.size -1 -k) (eQ a.size))=(eQ a.size).map λk=>a.toList.getD (a.size -1 -k) .none:=by
  have f:∀l:List Nat,(∀k∈l,k<a.size)->vI ((λx=>a[x]?)∘λk=>a.size -1 -k) l=l.map λk=>a.toList.getD (a.size -1 -k) .none:=by
   intro l
   induction l with
   |nil=>intro _;rfl
   |cons k l d=>
    intro c
    have:=c k (.head _)
    rw [qS,eG,d λz j=>c z (.tail _ j)]
    simp only [ow]
    rw [ec,gF,ox (by exact EC this)]
    rfl
  exact f _ λk b=>eU.mp b
 rw [m,ee]
 by_cases h:i<a.size
 .rw [ju h,List.getElem?_reverse (by simpa using h)]
  simp only [jV,eB]
  rw [ec,gF,ox (by exact EC h)]
  rfl
 .rw [i_ (by simpa using h),i_ (by simpa using h)]
  rfl
variable {bF:Tok}
theorem LR (r:R c b m) (i:RV c m.heap J l) (j:m.heap.IsSliceOf z .none .none (.int (-1) bF)) (h:OL b n l):
 WE c L (yR J (.ref z)) (k4 c b m n) m:=by
 induction h with
 | @mk a s e h=>
  obtain rfl:=gN i
  refine gq (r.isList e) λt p g q d f o=>?_
  refine uf f j .none .none (.int (-1) bF) (by simp) ?_ (a_ (by exact n1 o d) hY)
  rw [BR]
  exact nZ r (a:=0) (by simpa using q.rev) (by simpa using d) h
theorem Cr (h:itemAt j p=some l) (f:j.length<=fF):-2 ^ 63<=p/\p<2 ^ 63/\∃b,Sy p j.length=some b/\j[b]? =some l/\((0<=p/\b=p.toNat)\/(p<0/\-(j.length:Int)<=p/\b=(p+j.length).toNat)):=by
 unfold fF at f
 unfold itemAt at h
 split at h
 .rename_i a
  have c:=(ew.mp h).1
  refine ⟨(by exact jD (by decide) a),(by exact S_ c f),p.toNat,?_,h,(.inl ⟨a,rfl⟩)⟩
  unfold Sy
  simp only [if_neg (show ¬p<0 by exact oB a)]
  rw [if_pos (by simp;exact ⟨a,(Int.toNat_lt a).mp c⟩)]
 .rename_i a
  split at h
  .rename_i d
   have c:=(ew.mp h).1
   have e:j.length -p.natAbs=(p+j.length).toNat:=kb a
   refine ⟨(Q8 (a_ d (a_ f (by decide)))).1,(by exact zA (C9.mp a) (by decide)),(j.length -p.natAbs),?_,h,(.inr ⟨by exact OF a,kd a d,e⟩)⟩
   unfold Sy
   simp only [if_pos (show p<0 by exact OF a)]
   rw [if_pos (by simp;exact kc a d),e]
  .contradiction
theorem oX (q:hX c H (cE.map (·.2)) (aC.map (·.2))) (e:aC.map (·.1)=cE.map (λf=>.int f.1)) (b:(aC.map (·.1)).Nodup) (a:(AV.int p,l)∈aC):
 ∃v,jm cE p=some v/\RV c H v l:=by
 induction aC generalizing cE with
 |nil=>exact (eg a).elim
 |cons f ps g=>
  induction cE using el with
  |nil=>clear g b a q;contradiction
  |cons d cE=>
   simp only [eG,ix] at e
   rw [eG,eT] at b
   cases q with
   |cons j k=>
    rcases eK.mp a with rfl |a
    .simp only [AV.int.injEq] at e
     exact ej d.2 (by simp [jm,e.1]) j
    .refine eS (g k e.2 b.2 a) λv h r=>?_
     refine ej v ?_ r
     have i:¬d.1=p:=λm=>b.1 (by rw [e.1,m];exact ck.mpr (ej _ a rfl))
     simpa [jm,qL,i] using h
theorem JI {d:List (AV×gY×eH)} (q:hX c H (d.map (·.2.2)) (aC.map (·.2))) (e:aC.map (·.1)=d.map (·.1)) (f:(aC.map (·.1)).Nodup) (b:(l,af)∈aC):
 ∃a v,Sb d l=some (a,v)/\RV c H v af:=by
 induction aC generalizing d with
 |nil=>exact (eg b).elim
 |cons p ps h=>
  induction d using el with
  |nil=>clear h f b q;contradiction
  |cons g d=>
   simp only [eG,ix] at e
   rw [eG,eT] at f
   cases q with
   |cons j k=>
    rcases eK.mp b with rfl |b
    .exact nB g.2.1 g.2.2 (by simp [Sb,<-e.1]) j
    .refine i5 (h k e.2 f.2 b) λa v n r=>?_
     refine nB a v ?_ r
     have i:¬g.1=l:=λm=>f.1 (by rw [e.1,m];exact ck.mpr (ej _ b rfl))
     simpa [Sb,qL,i] using n
theorem LS (Q:mP a L) (r:R c b m) (y:RV c m.heap J l) (s:RV c m.heap aT af) (h:zC b n l af):
 WE c L (yR J aT) (k4 c b m n) m:=by
 induction h using zC.casesOn with
 | @tup F i z x h=>
  refine g5 J (iB y) λO K k e p q=>?_
  refine rX aT (gp s) λt=>?_
  have v:K.size=F.length:=by rw [<-q.length,eB]
  refine Ie (Cr x (by exact n1 v.symm p)) λG D j C w _=>?_
  refine eS (q.get w) λu f o=>?_
  exact P.getItem_tuple e G D (by rw [v];exact C) (by rw [<-gF];exact f) (post_of r (hJ _) o h)
 | @list O F i z e x h=>
  obtain rfl:=gN y
  refine rX aT (gp s) λt=>?_
  refine gq (r.isList e) λkn k g q p N v=>?_
  refine Ie (Cr x p) λG D j C w T=>?_
  refine eS (q.get w) λu f o=>?_
  rw [gF] at f
  have M:=post_of r (hJ _) o h
  clear Q r e x h y s g q p C w o;rcases T with ⟨H,rfl⟩ |⟨H,V,rfl⟩
  .exact wpAny_getItem_list N H D f M
  .exact wpAny_getItem_list_neg N H (by rw [v];exact V) G (by rw [v];exact f) M
 | @dict O kl af l e A I S=>
  obtain rfl:=gN y
  refine iK (r.oQ e) λd p=>?_
  rcases A with ⟨⟨i,rfl⟩,U⟩ |⟨A,W⟩
  .refine gj (d.GN U) λkm E q e=>?_
   refine rX aT (gp s) λt=>?_
   refine eS (oX q e d.nodup I) λu f o=>?_
   exact wpAny_getItem_of (pI _ _ i t) E.dictOf.mapOf f (post_of r (iO _ _) o S)
  .refine gj (d.Vs W) λX E q e=>?_
   refine j_ A.1 λF B=>?_;subst B
   refine mX (iB s) λkq K k B g p Y=>?_;subst B
   refine i5 (JI q e d.nodup I) λZ u f o=>?_
   exact wpAny_getItem_heap (knd:=tupK c) (vf Q) ⟨A,s⟩ E f (post_of r (iO _ _) o S)
variable {ar:wZ}
variable {aH:gf} {D:CE}
variable {aW:gf} {aL:CE}
section
section
variable {B:Base}
theorem vh (h:xa a0=true) (a:zv) (r:List gf):nh (a0::r) a=(false,vU a0 a)::nh r a:=by
 rcases a0 with ⟨⟩<;>first |rfl |contradiction
theorem Dw:LJ c a v [] .nil:=λA f m b s Q d e F r h=>Wu ⟨[],b,.nil,r,.refl,rfl,h⟩
theorem xk (u:xa a0=true) (C:SE c a v a0 g) (k:LJ c a v az ar):LJ c a v (a0::az) (.cons g ar):=λA b m p s Q y f F r h=>
 Wv (f5 (C A b m p s _ f F r h) (λI q x n o i d E=>xf (k A b m n q _ y f (F.step r d) i E) (λH G w z j D e B=>iK B λt l=>⟨x::w,z,.cons (o.step i e) j,D,d.trans e,congrArg rV t,l⟩))) (vh u b az)
theorem OV (d:ar.len<20) (q:LJ c a v az ar):SE c a v (.List az aa) (.lst ar):=λA j m i s Q n F r h=>
 wpAny_List_spliced (xf (q A j m i s _ aa n F r h) (λb w l u f o g p=>iK p λe t=>by
  have:b.length=l.length:=f.length
  refine ⟨by rw [nD];exact n1 (this.trans e) (a_ (eA d) (by decide)),?_⟩
  exact (nZ o (bf:=b.toArray) (a:=0) (by simpa using f) (by unfold fF;exact n1 e (a_ (eA d) (by decide))) t).trans g))
theorem IG {x1} (d:ar.len<20) (q:LJ c a v az ar):SE c a v (.Tuple az x1 aa) (.tup ar):=λA j m i s Q n F r h=>
 wpAny_Tuple_spliced (xf (q A j m i s _ aa n F r h) (λb w l u f o g p=>iK p λe t=>by
  have:b.length=l.length:=f.length
  refine ⟨by rw [nD];exact n1 (this.trans e) (a_ (eA d) (by decide)),?_⟩
  exact (uz o (bf:=b.toArray) (a:=0) (by simpa using f) (by unfold fF;exact n1 e (a_ (eA d) (by decide))) t).trans g))
theorem OW (k:Th cD=some bM) (l:SE c a v a0 g) (z:SE c a v aH D):SE c a v (.BinOp a0 cD aH aa) (.bin bM g D):=λA f m t s Q i F r h=>
 wpAny_BinOp (f5 (l A f m t s _ i F r h) (λH u x o q j b E=>f5 (z A f m o u _ i (F.step r b) j E) (λw G y I B C d n=>er (LM k C (q.step j d) B n) (λ_ _ p=>(p.trans d).trans b) λ_ _ e=>e)))
theorem IH (n:SE c a v a0 g):SE c a v (.UnaryOp .USub a0 aa) (.neg g):=λA i m f s Q k F r h=>
 Jp (f5 (n A i m f s _ k F r h) (λj p x o e l d b=>by
  induction b with
  |mk b=>
   refine rX j (gp e) λt=>?_
   exact BA ((post_of l (iO _ _) (.int _ _) b).trans d)))
theorem OX (p:SE c a v a0 g):SE c a v (.UnaryOp .Not a0 aa) (.not g):=λA l m k s Q o F r h=>
 Jp (f5 (p A l m k s _ o F r h) (λw u x q i e f d=>by
  refine eS d λb n d=>?_
  exact not_of (th e i n λt j=>(post_of e j (.bool _) d).trans f)))
theorem OY (q:ST c a v a0 g) (n:SE c a v aH D) (t:SE c a v aW aL):SE c a v (.IfExp a0 aH aW aa) (.ite g D aL):=λA d m o s Q f F r h=>
 wpAny_IfExp (qZ (q A d m o s _ f F r h) (λa0 j i k b l=>by
  induction a0 with
  |true=>exact er (n A d m i j _ f (F.step r b) k l) (λ_ _ p=>p.trans b) λ_ _ e=>e
  |false=>exact er (t A d m i j _ f (F.step r b) k l) (λ_ _ p=>p.trans b) λ_ _ e=>e))
theorem JJ {b:YV} (h:SE c a v a0 g):SE c a v (.BoolOp b [a0] aa) g:=λA e m d s Q f F r i=>BoolOp_one (h A e m d s Q f F r i)
theorem snd_and (i:SE c a v a0 g) (w:SE c a v (.BoolOp .And (aH::az) aa) D):SE c a v (.BoolOp .And (a0::aH::az) aa) (.and g D):=λA k m u s Q l F r h=>
 BoolOp_and (f5 (i A k m u s _ l F r h) (λz y x o j f e d=>by
  refine eS d λt n d=>?_
  refine th f j n λq b=>?_
  clear i h n;induction t with
  |true=>exact er (w A k m o q _ l (F.step r (e.trans (.grow b))) (f.grow b) d) (λ_ _ p=>p.trans (e.trans (.grow b))) λ_ _ a0=>a0
  |false=>exact (post_of f b (j.grow b) d).trans e))
theorem Q_ (i:SE c a v a0 g) (w:SE c a v (.BoolOp .Or (aH::az) aa) D):SE c a v (.BoolOp .Or (a0::aH::az) aa) (.or g D):=λA k m u s Q l F r h=>
 BoolOp_or (f5 (i A k m u s _ l F r h) (λz y x o j f e d=>by
  refine eS d λt n d=>?_
  refine th f j n λq b=>?_
  clear i h n;induction t with
  |true=>exact (post_of f b (j.grow b) d).trans e
  |false=>exact er (w A k m o q _ l (F.step r (e.trans (.grow b))) (f.grow b) d) (λ_ _ p=>p.trans (e.trans (.grow b))) λ_ _ a0=>a0))
theorem xl (h:xa a0=true) (a:Et):Jr a a0=false:=by
 rcases a0 with ⟨⟩<;>first |rfl |contradiction
section
variable (HB:gV B) (HD:q5 B)
include HB HD
theorem LU {n:Nat} {ns:gn} {l e:gf} {op:Et} {a b:CE} {pos:EB} (ha:SE B n ns l a) (hc:xa e=true) (hb:SE B n ns e b):SE B n ns (.Compare l [op] [e] pos) (.cmp a (zD op) b):=λA env m st s Q hr F r h=>
 wpAny_Compare1 (f5 (ha A env m st s _ hr F r h) (λv s₁ x st₁ qv r₁ y₁ h₁=>f5 (hb A env m st₁ s₁ _ hr (F.step r y₁) r₁ h₁) (λw s₂ y st₂ qw r₂ y₂ h₂=>er (vg HB HD hr r₂ (qv.step r₁ y₂) qw h₂) (λc s₃ zf=>gj zf λb e g hp=>e▸((post_of r₂ g (.bool b) hp).trans y₂).trans y₁) λ_ _ e=>e))) (xl hc op)
theorem LV {n:Nat} {ns:gn} {l e f:gf} {op op':Et} {a b c:CE} {pos:EB} (ha:SE B n ns l a) (hc:xa e=true) (hb:SE B n ns e b) (hc':xa f=true) (hf:SE B n ns f c):
 SE B n ns (.Compare l [op,op'] [e,f] pos) (.EP a (zD op) b (zD op') c):=λA env m st s Q hr F r h=>
 Compare_chain (f5 (ha A env m st s _ hr F r h) (λv s₁ x st₁ qv r₁ y₁ h₁=>chain_link (f5 (hb A env m st₁ s₁ _ hr (F.step r y₁) r₁ h₁) (λw s₂ y st₂ qw r₂ y₂ h₂=>er (vg HB HD hr r₂ (qv.step r₁ y₂) qw h₂) (λc s₃ zf=>gj zf λb e g hp=>by
  subst e
  have y₃:=y₁.trans (y₂.trans (Ex g))
  refine oq ?_
  induction b with
  |false=>simp only [fX,if_false] at hp⊢;exact ((post_of r₂ g (.bool _) hp).trans y₂).trans y₁
  |true=>
   simp only [if_true] at hp⊢
   refine chain_last (f5 (hf A env m st₂ s₃ _ hr (F.step r y₃) (r₂.grow g) hp) (λu s₄ z st₄ qu r₄ y₄ h₄=>
    er (vg HB HD hr r₄ ((qw.grow g).step (r₂.grow g) y₄) qu h₄) (λc s₅ zf=>gj zf λb e g' hp=>e▸((post_of r₄ g' (.bool b) hp).trans y₄).trans y₃) λ_ _ e=>e))) λ_ _ e=>e)))) (by
  show Jr op' f=false
  exact xl hc' op')
theorem JK {n:Nat} {ns:gn} {l e:gf} {op:Et} {a b:CE} {pos:EB} (ha:SE B n ns l a) (hc:xa e=true) (hb:SE B n ns e b):ST B n ns (.Compare l [op] [e] pos) (.cmp a (zD op) b):=λA env m st s Q hr F r h=>
 wpAny_isTrue_Compare1 (f5 (ha A env m st s _ hr F r h) (λv s₁ x st₁ qv r₁ y₁ h₁=>f5 (hb A env m st₁ s₁ _ hr (F.step r y₁) r₁ h₁) (λw s₂ y st₂ qw r₂ y₂ h₂=>er (vg HB HD hr r₂ (qv.step r₁ y₂) qw h₂) (λc s₃ zf=>gj zf λb e g hp=>e▸oq ⟨st₂,r₂.grow g,y₁.trans (y₂.trans (.grow g)),tb hp⟩) λ_ _ e=>e))) (xl hc op)
theorem JL {n:Nat} {ns:gn} {l e f:gf} {op op':Et} {a b c:CE} {pos:EB} (ha:SE B n ns l a) (hc:xa e=true) (hb:SE B n ns e b) (hc':xa f=true) (hf:SE B n ns f c):
 ST B n ns (.Compare l [op,op'] [e,f] pos) (.EP a (zD op) b (zD op') c):=λA env m st s Q hr F r h=>
 isTrue_chain (f5 (ha A env m st s _ hr F r h) (λv s₁ x st₁ qv r₁ y₁ h₁=>test_link (f5 (hb A env m st₁ s₁ _ hr (F.step r y₁) r₁ h₁) (λw s₂ y st₂ qw r₂ y₂ h₂=>er (vg HB HD hr r₂ (qv.step r₁ y₂) qw h₂) (λc s₃ zf=>gj zf λb e g hp=>by
  subst e
  have y₃:=y₁.trans (y₂.trans (Ex g))
  refine oq ?_
  induction b with
  |false=>simp only [fX,if_false] at hp⊢;exact ⟨st₂,r₂.grow g,y₃,tb hp⟩
  |true=>
   simp only [if_true] at hp⊢
   refine test_last (f5 (hf A env m st₂ s₃ _ hr (F.step r y₃) (r₂.grow g) hp) (λu s₄ z st₄ qu r₄ y₄ h₄=>
    er (vg HB HD hr r₄ ((qw.grow g).step (r₂.grow g) y₄) qu h₄) (λc s₅ zf=>gj zf λb e g' hp=>e▸oq ⟨st₄,r₄.grow g',y₃.trans (y₄.trans (.grow g')),tb hp⟩) λ_ _ e=>e))) λ_ _ e=>e)))) (by
  show Jr op' f=false
  exact xl hc' op')
end
theorem Az (w:SE c a v a0 g) (y:∀(m:MM) (d:AS) (Q:Bool->AS->Prop),VT PG (eE PG a) g (VE PG (eE PG a) g) m d Q=VE PG (eE PG a) g m d λe d=>∃b,nN d e b/\Q b d) (p:∀f l,GR a0 f l=(do let e <-l;GA a0.pos;yQ [e] (EA e))):ST c a v a0 g:=λA f m d s Q u F r h=>by
 rw [y] at h
 exact isTrue_plain (f5 (w A f m d s _ u F r h) (λe B x o q k n i=>by
  refine eS i λb t i=>?_
  exact th k q t λz j=>⟨o,k.grow j,n.trans (.grow j),i⟩)) (p _ _)
theorem LW (k:ST c a v a0 g):ST c a v (.UnaryOp .Not a0 aa) (.not g):=λA e m b s Q f F r h=>
 isTrue_not (er (k A e m b s _ f F r h) (λ_ _ ⟨l,d,i,j⟩=>⟨l,d,i,j⟩) λ_ _ a0=>a0)
theorem LX (q:ST c a v a0 g) (n:ST c a v aH D) (t:ST c a v aW aL):ST c a v (.IfExp a0 aH aW aa) (.ite g D aL):=λA d m o s Q f F r h=>
 isTrue_IfExp (qZ (q A d m o s _ f F r h) (λa0 j i k b l=>by
  induction a0 with
  |true=>exact er (n A d m i j _ f (F.step r b) k l) (λ_ _ p=>p.trans b) λ_ _ e=>e
  |false=>exact er (t A d m i j _ f (F.step r b) k l) (λ_ _ p=>p.trans b) λ_ _ e=>e))
theorem Hg {b:YV} (h:ST c a v a0 g):ST c a v (.BoolOp b [a0] aa) g:=λA e m d s Q f F r i=>by
 induction b using BoolOp.casesOn with
 |And=>exact YW (er (h A e m d s Q f F r i) (λt j p=>by induction t using j5 with
  |true=>exact isTrue_and_nil p
  |false=>exact p) λ_ _ a0=>a0)
 |Or=>exact isTrue_or (er (h A e m d s Q f F r i) (λt j p=>by induction t using j5 with
  |true=>exact p
  |false=>exact isTrue_or_nil p) λ_ _ a0=>a0)
theorem LY (o:ST c a v a0 g) (n:ST c a v (.BoolOp .And (aH::az) aa) D):ST c a v (.BoolOp .And (a0::aH::az) aa) (.and g D):=λA e m k s Q f F r h=>
 YW (qZ (o A e m k s _ f F r h) (λt l d i b j=>by
  induction t with
  |true=>exact er (n A e m d l _ f (F.step r b) i j) (λ_ _ p=>p.trans b) λ_ _ a0=>a0
  |false=>exact ⟨d,i,b,j⟩))
theorem OZ (o:ST c a v a0 g) (n:ST c a v (.BoolOp .Or (aH::az) aa) D):ST c a v (.BoolOp .Or (a0::aH::az) aa) (.or g D):=λA e m k s Q f F r h=>
 isTrue_or (qZ (o A e m k s _ f F r h) (λt l d i b j=>by
  induction t with
  |true=>exact ⟨d,i,b,j⟩
  |false=>exact er (n A e m d l _ f (F.step r b) i j) (λ_ _ p=>p.trans b) λ_ _ a0=>a0))
end
end
variable {cF:AO}
variable {aX:zr}
variable {bO:Qp}
section
section
variable {B:Base}
noncomputable def Place (a p:gY) (o₀ o:AO):Prop:=(p=a/\(∀c dx fs,o₀≠.inst c dx fs)/\∀c dx fs,o≠.inst c dx fs)\/∃c fs fs',o₀= .inst c p fs/\o= .inst c p fs'
theorem R.upd {o:AO} {t:Nat} (r:R c b m) (e:b z=some ay) (i:iE aV m.heap H) (l:Place z aV ay o) (s:RO c H z o):
 R c (b.set z o) {m with heap:=H,toks:=t}/\St c b m (b.set z o) {m with heap:=H,toks:=t}:=by
 have p:ic c b aV:=by
  clear r i s;rcases l with ⟨rfl,_⟩ |⟨k,j,D,rfl,rfl⟩
  .exact .inl (by rw [e];simp)
  .exact .inr (.inl (qA z k j e))
 have v:∀a B,b a=some B->a≠z->a≠aV:=by
  intro a B d g M
  clear i s p;rcases l with ⟨rfl,_⟩ |⟨k,j,D,rfl,rfl⟩
  .exact g M
  .clear g;subst M;rw [(r.Cq z k a j e).1] at d;contradiction
 have A:∀a k n j,b a=some (.inst k n j)->a≠z->n≠aV:=by
  intro a k n j d g P
  clear i s p v;subst P
  rcases l with ⟨rfl,_⟩ |⟨J,D,K,rfl,rfl⟩
  .rw [(r.Cq a k n j d).1] at e;contradiction
  .exact g ((r.Cq z J n D e).2.2 a k j d)
 have y:∀x B,m.heap.get? x=some B->f_ B->H.get? x=some B:=by
  intro x B f Q
  rewrite [i.2 x λq=>?_];exact f
  clear e i l s v A;subst q
  refine eS (r.oD p) λU u S=>?_
  rw [f] at u;(injection u with u;subst u);exact S Q
 have E:∀a,ic c (b.set z o) a->ic c b a:=by
  clear r i s p v A y;rintro a (h |⟨x,k,j,h⟩ |h)
  .by_cases d:a=z
   .exact .inl (by rw [d,e];simp)
   .rw [gw d] at h;exact .inl h
  .by_cases f:x=z
   .subst f;rw [gX] at h;(injection h with h;subst h)
    rcases l with ⟨_,_,w⟩ |⟨J,D,K,rfl,C⟩
    .exact absurd rfl (w _ _ _)
    .cases (C);exact .inr (.inl (qA x _ _ e))
   .rw [gw f] at h;exact .inr (.inl (qA x k j h))
  .exact .inr (.inr h)
 have G:aV≠c.tab:=by
  clear i s p v A y E;rcases l with ⟨rfl,_⟩ |⟨k,j,D,rfl,rfl⟩
  .intro q;subst q;rw [r.vB] at e;contradiction
  .exact (r.Cq z k aV j e).2.1
 refine ⟨⟨λa I d=>?_,λa I d=>?_,λa d=>r.new a (E a d),λa k n j d=>?_,?_,?_,r.gens,r.os⟩,⟨λa I d T=>?_,λa d=>.inl (E a d)⟩⟩
 .clear e l p E G;by_cases g:a=z
  .clear r i v A y;subst g;rw [gX] at d;(injection d with d;subst d);exact s
  .rw [gw g] at d
   exact (r.objs a I d).mono y (λx f=>(i.2 a (v a I d g)).trans f) λk n j q x f=>(i.2 n (A a k n j (q▸d) g)).trans f
 .have:=r.old a I d
  exact (i.2 a λq=>by clear e i l s v A y E G;subst q;rw [r.new a p] at d;contradiction).trans this
 .clear i s p v A y E G;by_cases g:a=z
  .subst g;rw [gX] at d;(injection d with d;subst d)
   rcases l with ⟨_,_,w⟩ |⟨J,D,K,rfl,C⟩
   .exact absurd rfl (w _ _ _)
   .cases (C)
    refine mW (r.Cq a _ _ _ e) λF u w=>?_
    refine iz (by rw [gw (λq=>by rw [q,e] at F;contradiction)];exact F) u (λx c2 L f=>?_)
    by_cases N:x=a
    .exact N
    .rw [gw N] at f;exact w x c2 L f
  .rw [gw g] at d
   clear g;refine mW (r.Cq a k n j d) λF u w=>?_
   refine iz (by rw [gw (λq=>by rw [q,e] at F;contradiction)];exact F) u (λx c2 L f=>?_)
   clear r d F u;by_cases O:x=z
   .subst O;rw [gX] at f;(injection f with f;subst f)
    rcases l with ⟨_,_,C⟩ |⟨J,D,K,rfl,C⟩
    .exact absurd rfl (C _ _ _)
    .cases (C);exact w x _ _ e
   .rw [gw O] at f;exact w x c2 L f
 .clear i l s p v A y E G;by_cases g:c.tab=z
  .subst g;rw [r.vB] at e;contradiction
  .rw [gw g];exact r.vB
 .exact r.tab.mono y λo e=>(i.2 _ (nA G)).trans e
 .exact (i.2 a λq=>T (q▸p)).trans d
theorem LZ (r:R c b m) (e:b z=some ay) (j:iE aV m.heap H) (f:Place z aV ay cF) (d:RO c H z cF) (g:RV c H J l) (h:n l (b.set z cF)):
 k4 c b m n J {m with heap:=H,toks:=a}:=
 let ⟨z,i⟩:=r.upd (t:=a) e j f d
 ⟨l,_,g,z,i,h⟩
theorem R.nO (r:R c b m) (f:ic c b z) (g:iE z m.heap H):∀x a,m.heap.get? x=some a->f_ a->H.get? x=some a:=λx a e h=>(g.2 x λq=>by
 clear g;subst q
 refine eS (r.oD f) λj d i=>?_
 rw [e] at d;obtain rfl:=d5 d;exact i h).trans e
theorem Hh (h:AT[a]? =some ao) (b:AT[d]? =some ao):a=d:=
 (iR (ew.mp h).1 (by decide+kernel:AT.Nodup)).mp (h.trans b.symm)
theorem AA (a:j7) (t:Tok):qd (.str a t) a=true:=by simp [qd]
theorem yh:qd (.str ao bF) cB=true↔ao=cB:=by simp [qd]
theorem II {e:pS} (d:e.key.isStr ao=false) (a:e.refKey=false):QW ao (e::bE)=QW ao bE:=by
 have b:(e::bE).any (·.refKey)=bE.any (·.refKey):=by rw [List.any_cons,a,Q2]
 have c:(e::bE).find? (·.key.isStr ao)=bE.find? (·.key.isStr ao):=by rw [qL,d]
 unfold QW
 rw [c]
 induction bE.find? (·.key.isStr ao) with
 |some _=>rfl
 |none=>simp only [b]
theorem E3 (q:yf c H bE aS) (h:AT[a]? =some ao) (b:aS.lookup a=some l):∃v,QW ao bE=some (some v)/\RV c H v l:=by
 induction q with
 |nil=>contradiction
 | @cons e y v bE aS n t d g j p i=>
  rw [eM] at b
  by_cases f:a=y
  .clear p i;subst f
   rw [beq_self_eq_true] at b;obtain rfl:=d5 b
   rw [h] at d;obtain rfl:=d5 d
   exact ej e.val (by unfold QW;rw [qL,g,AA]) j
  .rw [beq_false_of_ne f] at b
   refine eS (i b) λw m o=>?_
   refine ej w ?_ o
   have k:qd e.key ao=false:=by
    rw [g,nM];intro z
    exact f (Hh h ((yh.mp z)▸d))
   rw [II k (by unfold DictEntry.refKey;rw [g])];exact m
theorem Ct (q:yf c H bE aS) (h:AT[a]? =some ao) (b:aS.lookup a=none):QW ao bE=some none:=by
 induction q with
 |nil=>rfl
 | @cons e y v bE aS n t g f j m i=>
  rw [eM] at b
  by_cases d:a=y
  .clear h g f j m i;subst d
   rw [beq_self_eq_true] at b;contradiction
  .rw [beq_false_of_ne d] at b
   have l:=i b
   have k:qd e.key ao=false:=by
    rw [f,nM];intro z
    exact d (Hh h ((yh.mp z)▸g))
   rw [II k (by unfold DictEntry.refKey;rw [f])];exact l
theorem E4 (q:yf c H bE aS) (d:AT[a]? =some ao) (i:RV c H J l):yf c H (Wq ao p (.str ao bF) J bE) (iy aS a l):=by
 induction q with
 |nil=>exact .cons ao bF d rfl i .nil
 | @cons e y w bE aS n j b f k o h=>
  unfold Wq;rw [vJ]
  by_cases g:y=a
  .clear k h;subst g
   rw [d] at b;obtain rfl:=d5 b
   rw [if_pos (by rw [f];exact AA _ _),if_pos rfl]
   exact .cons ao j d f i o
  .have m:¬qd e.key ao=true:=by
    rw [f];intro z
    exact g (Hh b (by rw [yh.mp z];exact d))
   rw [if_neg m,if_neg g]
   exact .cons n j b f k h
theorem BS (a:List (Nat×AV)) (x:Nat) (u:AV):(iy a x u).map (·.1)=if x∈a.map (·.1) then a.map (·.1) else a.map (·.1)++[x]:=by
 induction a with
 |nil=>rfl
 |cons p a d=>
  obtain ⟨y,w⟩:=p
  rw [vJ]
  by_cases b:y=x
  .clear d;subst b;simp
  .rw [if_neg b,eG,d]
   have:¬x=y:=λe=>b e.symm
   by_cases c:x∈a.map (·.1)
   .simp [c]
   .rw [if_neg c,if_neg (by simp only [eG,eK,not_or];exact ⟨this,c⟩)];rfl
theorem uB (h:(aS.map (·.1)).Nodup):((iy aS a l).map (·.1)).Nodup:=by
 rw [BS]
 split
 .exact h
 .rename_i f
  rw [eP]
  exact iz h (by simp) (λg d b c e=>by simp at c;subst c;subst e;exact f d)
theorem L0:∀(n:Nat) (l:List Nat),l.Nodup->(∀x∈l,x<n)->l.length<=n:=by
 intro n
 induction n with
 |zero=>
  intro l _ h
  induction l using el with
  |nil=>exact eJ _
  |cons x l=>exact absurd (h x (.head _)) (o_ _)
 |succ n c=>
  intro l b h
  by_cases d:n∈l
  .have:=c (l.erase n) (b.erase n) λx a=>ni (eX (h x (List.mem_of_mem_erase a))) ((b.mem_erase_iff).mp a).1
   rw [List.length_erase_of_mem d] at this
   exact Nat.le_add_of_sub_le this
  .exact pL (c l b λx a=>ni (eX (h x a)) λe=>d (e▸a))
theorem L3 (q:yf c H bE aS) (a:(aS.map (·.1)).Nodup):bE.length=aS.length/\aS.length<=62:=by
 constructor
 .induction q with
  |nil=>rfl
  |cons _ _ _ _ _ _ b=>rw [eG,eT] at a;simp [b a.2]
 .rw [<-bb (f:=(·.1)) (as:=aS)]
  refine L0 62 _ a λx d=>?_
  clear a
  induction q with
  |nil=>contradiction
  |cons n t e _ _ _ b=>
   rcases eK.mp d with rfl |d
   .exact (ew.mp e).1
   .exact b d
theorem JM (q:RV c H J l):handedIn J=true:=by
 induction q using RV.casesOn with
 |bi n=>
  rcases n with _ |_ |_ |_ |_ |_ |_ |_ |_ |_ |n<;>first |rfl |decide+a
 |_=>rfl
theorem Dx (l:SI aX z=true) (j:sX aX (.ref z) ao=some (some J)) (d:SG aX J "__get__"=some (some aT)) (m:Wm aX J=some false) (g:YH ao cf=some (some cT)):
 findObj aX z (some cf) ao=some (.value cT):=by
 refine eS (any_some l) λn i e=>?_
 have a:∀{b c:Type} {o:Option b} {f:b->Option c} {J:b} {r:Option c},o=some J->f J=r->o.bind f=r:=λh k=>h▸k
 exact a i (a j (a d (a m (a ((if_pos e).trans g) rfl))))
theorem Iz.own (K:Iz c a bO) (h:AT[d]? =some ao) (e:YH ao cf=some (some J)):findObj c.K (c.ca a) (some cf) ao=some (.value J):=by
 induction b:bO.meths.lookup d with
 |none=>exact findObj_own K.dict (K.name d ao h b) rfl e
 |some f=>
  refine wV (K.Tt d ao f h b) λl m i k=>?_;refine j_ i λg j=>?_
  exact Dx K.dict l j k e
theorem Dy (q:RO c H z (.inst a d aS)):∃b k,H.get? z=some (uc (c.ca a) d)/\H.get? d=some (rv b k)/\yf c H b aS/\(aS.map (·.1)).Nodup/\a<10:=by
 cases q with
 |inst e f q g l=>exact qV _ _ e f q g l
section
variable (HB:gV B)
include HB
theorem gV.Hi {st:AS} {s:eL} (r:R B st s):B.K.In s.heap:=λa o e=>r.old a o (HB.Wd a o e)
theorem E5 {st:AS} {s:eL} {A:jc} (r:R B st s) {a c dx x:Nat} {fs:List (Nat×AV)} {nm:j7} {u:AV} {ex:Bool} {Q:AV->AS->Prop} (e:st a=some (.inst c dx fs)) (hx:AT[x]? =some nm) (hl:fs.lookup x=some u) (h:Q u st):
 WE B A (getAttr (.ref a) nm ex) (k4 B st s Q) s:=by
 refine gq (Dy (r.objs a _ e)) λes k e1 e2 q nd hc=>?_
 refine eS (HB.cls c hc) λC _ K=>?_
 refine eS (E3 q hx hl) λv hv qv=>?_
 exact get_value (HB.Hi r) (od:=some (rv es k)) ⟨e1,rfl,rfl,e2⟩ K.get (K.own hx hv) (JM qv) (post_of r (iO _ _) (qv.grow (iO _ _)) h)
noncomputable def xm (e:gf):Prop:=∀nm env whole,VX e nm env whole=whole
omit HB in
theorem Dz {x:j7} {p q:EB} (h:x≠G_):xm (.Call (.Name x p) [] [] q):=λnm env whole=>by
 have h2:(x !=("super":j7))=true:=by
  rw [bne_iff_ne];intro q;exact h (q.trans (by unfold G_;exact (by decide+kernel:("super":j7)=(⟨⟨[115,117,112,101,114]⟩⟩:j7))))
 unfold VX
 dsimp only
 rw [h2];rfl
theorem L4 {n:Nat} {ns:gn} {e:gf} {a:CE} {x:Nat} {nm:j7} {pos:EB} (hb:xm e) (hx:AT[x]? =some nm) (he:SE B n ns e a):SE B n ns (.Attribute e nm pos) (.attr a x):=λA env m st s Q hr F r h=>by
 refine Attribute_any_ (f5 (he A env m st s _ hr F r h) (λv s₁ y st₁ qv r₁ y₁ h₁=>?_)) (by rw [arm_eval_Attribute,hb])
 induction h₁ with
 |mk e1 hu h₁=>
  obtain rfl:=gN qv
  exact er (E5 HB r₁ e1 hx hu h₁) (λ_ _ p=>p.trans y₁) λ_ _ e=>e
end
end
end
variable {bo:GC} {bp:Yv} {bG:Result->eL->Prop} {cU:gY}
set_option tactic.hygienic true in
theorem JN (X:aX.In m.heap) (I:InstAt m.heap aV cf z (some (rv bE a))) (f:cf.dict=some cU) (j:SH aX z=true) (o:Wn aX z ao=some none) (n:(clsIn aX z).any (·.hasDict)=true) (e:(QW ao bE).isSome=true) (s:(Wq ao (pB bp.params ao) (.str ao m.toks) J bE).length<=1000) (h:∀d,iE cU m.heap d->d.get? cU=some (rv (Wq ao (pB bp.params ao) (.str ao m.toks) J bE) (putN ao bE a))->bG (.ok (.ret .none)) {m with heap:=d,toks:=m.toks+1}):
 sq (hU bo bp) L (.call (.builtin "object.__setattr__") ⟨[.ref aV,.str ao bF,J],[]⟩) bG m:=by
 refine osa_open X I j o λb=>?_
 obtain ⟨x,t,p⟩:=any_some n
 obtain ⟨u,k,r,D⟩:=I
 clear j o n r;obtain ⟨v,A,y,w⟩:=cf
 dsimp only at k f
 subst k f
 dsimp only at D
 have i:(m.heap.update cU (Obj.putName ao (pB bp.params ao) (.str ao m.toks) J)).get? cU=some (rv (Wq ao (pB bp.params ao) (.str ao m.toks) J bE) (putN ao bE a)):=by
  rw [<-Wo]
  exact nE _ D (by rw [Wo];rfl)
 refine b5 (dk (b5 (b5 (UW u (b5 ((looks_clsIn X t).here ?_))))))
 rw [p]
 refine dk (a:=some cU) (b5 (dk (b5 ?_)))
 unfold nsSet
 refine b5 (b5 (Sw (dk (b5 (wpAny_mkText (b5 (UW D ?_)))))))
 have c:(!bE.toArray.any (·.key.isStr ao)&&bE.toArray.any (·.refKey))=false:=by
  rw [<-Lf,<-Lf]
  unfold QW at e
  dsimp only
  split at e
  .rename_i q l
   rw [qc.mpr (ej q (sl l) (BC l))];rfl
  .split at e
   .contradiction
   .rename_i g;rw [mK] at g;rw [g,Ql]
 dsimp only
 rw [aRefKeyMayBeTheName_at,c]
 refine wpAny_updatePart D ?_
 refine b5 (wpAny_lookBehind i (pastItsLine_dict (by rw [j4,nD];exact a_ s (by decide))) ?_)
 exact dk (h _ (gK ..) i)
variable {bq:Unit->eL->Prop}
theorem uC (j:gV c) (r:R c b m) (e:b a=some (.inst d o aS)) (g:AT[I]? =some ao) (A:RV c m.heap J l) (h:∀u,R c (b.set a (.inst d o (iy aS I l))) u->St c b m (b.set a (.inst d o (iy aS I l))) u->bq () u):
 WE c L (setAttr (.ref a) ao J) bq m:=by
 refine gq (Dy (r.objs a _ e)) λv k D E q y B=>?_
 refine eS (j.cls d B) λC _ K=>?_
 have n:InstAt m.heap a (uc (c.ca d) o) (c.ca d) (some (rv v k)):=⟨D,rfl,rfl,E⟩
 have f:(QW ao v).isSome=true:=by
  induction f:aS.lookup I with
  |some l=>refine eS (E3 q g f) λw G _=>?_;rw [G];rfl
  |none=>rw [Ct q g f];rfl
 have z:(Wq ao (pB c.w.params ao) (.str ao (m.toks+1)) J v).length<=1000:=by
  have:=L3 (E4 (p:=pB c.w.params ao) (bF:=m.toks+1) q g A) (uB y)
  exact n1 this.1 (a_ this.2 (by decide))
 refine set_plain (j.Hi r) n K.set (JN (m:={m with toks:=m.toks+1}) (j.Hi (r.grow (iO m (m.toks+1)))) n rfl K.plain (K.Tr I ao g) K.dict f z λO p F=>?_)
 have x:=r.nO (.inr (.inl (qA a d aS e))) p
 have H:a≠o:=λq=>by clear j E K n f z;subst q;rw [(r.Cq a d a aS e).1] at e;contradiction
 refine iK (r.upd (t:=m.toks+1+1) e p (.inr ⟨d,aS,(iy aS I l),rfl,rfl⟩) (.inst ((p.2 a H).trans D) F (E4 (q.mono x) g (A.mono x)) (uB y) B)) λN M=>?_
 exact h _ N M
theorem JO {k:eH->Ox eH} (a:∀d,gc (hU c.prog c.w) L (operate d (yR J aT)) (λr m=>gc (hU c.prog c.w) L (k r) aG cC m) cC m) (b:gf):gc (hU c.prog c.w) L (subscripted b false J aT>>= k) aG cC m:=by
 induction b using ud with
 |Slice l u m p=>induction m using d_ with |_=>exact b5 (a _)
 |_=>exact b5 (a _)
theorem r9 (h:gc (hU c.prog c.w) L (vU a0 ab) (λo e=>gc (hU c.prog c.w) L (vU aH ab) (λi a=>(∃T k,sU (.type T) "__getitem__"=pure (some (.builtin k))/\a.TypeIs o T)/\gc (hU c.prog c.w) L (yR o i) cC aG a) aG e) aG m):
 gc (hU c.prog c.w) L (vU (.Subscript a0 aH aa) ab) cC aG m:=by
 rw [eval_Subscript]
 refine b5 (er h (λo e n=>b5 (f6 (er n (λi a l=>b5 (mM ?_)) λ_ _ x=>x)))
  λ_ _ x=>x)
 clear h n;refine iK l λp d=>?_;refine i5 p λT k g b=>?_
 refine b5 ?_
 rw [getitemInPython_of_ne b.not_modules]
 refine b5 (rR b g ?_)
 have q:∀f,gc (hU c.prog c.w) L (operate f (yR o i)) (λr j=>gc (hU c.prog c.w) L (letTemporaryGo a0 o r>>= λ_=>pure r) cC aG j) aG a:=λf=>
  wpAny_operating (er d (λr j s=>b5 (wpAny_letTemporaryGo (dk s))) λ_ _ x=>x)
 refine dk ?_
 clear d l g b
 exact JO q aH
theorem yj (r:R c b m) (d:RV c m.heap J (.ref a)) (e:b a=some (.list j)):∃T h,sU (.type T) "__getitem__"=pure (some (.builtin h))/\m.TypeIs J T:=by
 obtain rfl:=gN d
 refine gq (r.isList e) λn k g q l f i=>?_
 exact nB _ _ R'.lookup f.typeIs
theorem E6 (b:RV c m.heap J (.tup j)):∃T d,sU (.type T) "__getitem__"=pure (some (.builtin d))/\m.TypeIs J T:=by
 refine g5 J (iB b) λa f k e l q=>?_;exact ⟨_,_,Aa.lookup,_,e,rfl⟩
theorem JP (r:R c b m) (a:RV c m.heap J l) (h:zC b n l af):∃T f,sU (.type T) "__getitem__"=pure (some (.builtin f))/\m.TypeIs J T:=by
 induction h with
 |tup=>exact E6 a
 |list e=>exact yj r a e
 |dict e=>
  obtain rfl:=gN a
  refine wW (r.oQ e).1.obj λo j i d g _=>?_
  exact ⟨_,_,slot_dict_getitem.lookup,o,d,g.1⟩
theorem JQ (r:R c b m) (d:RV c m.heap J l) (h:G8 b n l af b7):∃T g,sU (.type T) "__getitem__"=pure (some (.builtin g))/\m.TypeIs J T:=by
 induction h with
 |tup=>exact E6 d
 |list e=>exact yj r d e
 |BM=>
  refine Lm J (LA d) λa j p=>mW p λf b7 q=>?_;refine eS f λo k i=>?_
  have e:m.heap.IsList a j:=ej o (r.old _ _ k) i
  exact nB _ _ R'.lookup e.typeIs
theorem JR (r:R c b m) (a:RV c m.heap J l) (h:OL b n l):∃T d,sU (.type T) "__getitem__"=pure (some (.builtin d))/\m.TypeIs J T:=by
 induction h with
 |mk e=>exact yj r a e
theorem IJ (n:SE c a v a0 g) (u:SE c a v aH D):SE c a v (.Subscript a0 aH aa) (.sub g D):=λA k m q s Q d F r h=>
 r9 (f5 (n A k m q s _ d F r h) (λE t x o j e i B=>f5 (u A k m o t _ d (F.step r i) e B) (λw C y G z l b f=>⟨JP l (j.step e b) f,er (LS d l (j.step e b) z f) (λ_ _ p=>(p.trans b).trans i) λ_ _ a0=>a0⟩)))
noncomputable def SO (B:Base) (n:Nat) (ns:gn) (o:Option gf) (c:CE):Prop:=∀(A:jc) (env:zv) (m:MM) (st:AS) (s:eL) (Q:AV->AS->Prop),
 mP n A->FR B env ns m st s->R B st s->VE PG (eE PG n) c m st Q->WE B A (evalPart o env) (k4 B st s Q) s
theorem E7:SO c a v none (.cst .none):=λA e m d s Q b F r h=>dk (post_of r (hJ _) .none h)
theorem E9 (h:SE c a v a0 g):SO c a v (some a0) g:=λA d m b s Q e F r f=>h A d m b s Q e F r f
variable {b9:EB}
theorem O0 {l u:Option gf} (C:SE c a v a0 g) (M:SO c a v l D) (L:SO c a v u aL):SE c a v (.Subscript a0 (.Slice l u none aa) b9) (.tY g D aL):=λA i m J s Q j F r h=>
 r9 (f5 (C A i m J s _ j F r h) (λS K x H I q d P=>Ou (f5 (M A i m H K _ j (F.step r d) q P) (λw G y O N k e E=>f5 (L A i m O G _ j (F.step r (d.trans e)) k E) (λu B z R t o f n=>by
  rw [Jq]
  refine dk ?_
  have b:=jw B {cls:=.type "slice",data:=.fields #[w,u,.none]}
  have p:=((I.step q e).step k f).grow b
  exact ⟨JQ (o.grow b) p n,er (LQ (o.grow b) p (tG ..) ((N.step k f).grow b) (t.grow b) n) (λ_ _ aa=>(((aa.trans (Ex b)).trans f).trans e).trans d) λ_ _ a0=>a0⟩)))))
variable {cG cV:EB}
theorem O1 (k:SE c a v a0 g):SE c a v (.Subscript a0 (.Slice none none (some (.UnaryOp .USub (.Constant (.int 1) d aa) b9)) cG) cV) (.rev g):=λA o m n s Q p F r h=>
 r9 (f5 (k A o m n s _ p F r h) (λt e x q f i l j=>Ou (by
  rw [Jq]
  refine dk (dk ?_)
  rw [evalPart_some]
  refine Jp (QR (BA ?_))
  have b:=(iO e (e.toks+1+1)).trans (jw {e with toks:=e.toks+1+1} {cls:=.type "slice",data:=.fields #[.none,.none,.int (-1) (e.toks+1)]})
  exact ⟨JR (i.grow b) (f.grow b) j,er (LR (i.grow b) (f.grow b) (tG ..) j) (λ_ _ aa=>(aa.trans (Ex b)).trans l) λ_ _ a0=>a0⟩)))
theorem uD:∀{c:List gf},An c=true->∀(b:zv) (a:EB),(sW a (nh c b)).any (·.1)=false:=by
 intro f
 induction f with
 |nil=>
  intro _ _ _
  exact rfl
 |cons e r d=>
  intro h b a
  have h:=(eV _ _).mp h
  rw [vh h.1]
  show (false||(sW a (nh r b)).any (·.1))=false
  rw [d h.2];rfl
theorem yk {M:Model} {Q:Args->eL->Prop} (c:An az=true) (h:gc M L (R9 (sW aa (nh az ab))) (λb a=>Q ⟨b,[]⟩ a) aG m):gc M L (evalArgs J true (sW aa (nh az ab)) []) Q aG m:=by
 induction az using el with
 |nil=>
  unfold evalArgs
  show gc M L (R9 []>>= _) Q aG m
  have h:gc M L (R9 []) (λb a=>Q ⟨b,[]⟩ a) aG m:=h
  refine b5 (er h (λb a d=>?_) λ_ _ x=>x)
  refine b5 (dk ?_)
  refine f6 ?_
  refine b5 (dk (b5 (dk (dk ?_))))
  exact d
 |cons e r=>
  have c:=(eV _ _).mp c
  rw [vh c.1] at h⊢
  exact evalArgs_plain h
theorem E_ (d:gV c) (e:eE PG a l j b n) (q:RV c H J l) {M:Model} (X:c.K.In b8):
 ∃k,(k=Ep\/k=Bx\/k=xT)/\Looks M b8 (U0 J) k:=by
 induction a using ji with
 |zero=>exact e.elim
 |succ a=>
  induction l using AV.casesOn with
  |fn k=>
   obtain rfl:=Qs q
   have:k<82:=by
    refine Q7 e λ_ F m f _=>?_
    rw [<-d.Tw];exact (ew.mp f).1
   exact keeps_K (d.IA k this) b8 X
  |cls h=>
   obtain rfl:=Lz q
   have:h<10:=by
    refine eS e λF f _=>?_
    rw [<-d.LI];exact (ew.mp f).1
   exact keeps_K (d.IB h this) b8 X
  |bi g=>
   clear d X e;obtain rfl:=Qt q
   refine ej .machine (.inr (.inl rfl)) ?_
   clear q;rcases g with _ |_ |_ |_ |_ |_ |_ |_ |_ |_ |g<;>exact ny rfl
  |_=>exact e.elim
theorem sA (j:An az=true) (o:LJ c a v az ar) (q:mP a L) (F:FR c ab v e b m) (r:R c b m) (h:Io PG (eE PG a) ar e b bL) (p:∀i f g d,hX c d.heap g i->R c f d->St c b m f d->bL i f->(∃k,(k=Ep\/k=Bx\/k=xT)/\Looks (hU c.prog c.w) d.heap (U0 J) k)/\WE c L (nC J (aj++g) []) aG d):
 WE c L (BH aa J aj (sW aa (nh az ab)) []) aG m:=
 Yx (P:=λh=>∃k,(k=Ep\/k=Bx\/k=xT)/\Looks (hU c.prog c.w) h (U0 J) k) (by rw [uD j];rfl) (λ_ h=>h)
  (yk j (xf (o L ab e b m bL aa q F r h) (λg d i f n u s t=>iK t λ_ l=>p i f g d n u s l)))
theorem Fb (f:gV c) (q:qn c a) (J:∀o z p,a0≠.Attribute o z p) (t:An az=true) (j:SE c a v a0 g) (k:LJ c a v az ar):SE c a v (.Call a0 az [] aa) (.call g ar):=λA b m E s Q d F r h=>by
 have K:vU (.Call a0 az [] aa) b=(do BH aa (<-vU a0 b) [] (sW aa (nh az b)) (U2 aa (Ov [] b))):=by
  clear f q t j k d F r h;rcases a0 with ⟨⟩<;>first |rfl |exact absurd rfl (J _ _ _)
 rw [K]
 refine b5 (f5 (j A b m E s _ d F r h) (λC N x M n u l L=>?_))
 exact sA t k d (F.step r l) u L λI H G D B y w i=>⟨E_ f i n (f.Hi y),er (q x I H Q A C G D i d y (n.step u w) B) (λ_ _ p=>(p.trans w).trans l) λ_ _ e=>e⟩
theorem Hj (o:xm a0) (p:aa.endLine=b9.line) (q:An az=true) (j:az.length<20) (h:gc (hU c.prog c.w) L (vU a0 ab) (λf d=>∀g,gc (hU c.prog c.w) L (SD f ao g) (λa b=>gc (hU c.prog c.w) L (BH b9 a.1 a.2 (sW b9 (nh az ab)) []) cC aG b) aG d) aG m):
 gc (hU c.prog c.w) L (vU (.Call (.Attribute a0 ao aa) az [] b9) ab) cC aG m:=by
 rw [arm_eval_Call,o]
 refine b5 (er h (λf d s=>b5 (mM ?_)) λ_ _ e=>e)
 have n:UZ (az.length+([]:List Ws).length) (sW b9 (nh az ab)) (U2 b9 (Ov [] ab))=true:=by
  unfold UZ
  have r:=uD q ab b9
  have i:(sW b9 (nh az ab)).all (!·.1)=true:=by
   rw [EF];simp only [Bool.not_not];rw [r];rfl
  rw [i]
  show (true&&true&&decide (az.length+0+0<30))=true
  simp only [Bool.true_and,decide_eq_true_eq];exact gG j (by decide)
 have l:VV true a0 ab aa b9=pure b9:=by unfold VV;simp [p]
 unfold methodCall
 rw [n]
 refine b5 (f6 (er (s _) (λa b k=>?_) λ_ _ e=>e))
 exact b5 (Yp l k)
noncomputable def Qu (B:Base) (n:Nat):Prop:=∀(ns:gn) (A:jc) (env:zv) (m:MM) (st:AS) (s:eL) (Q:AV->AS->Prop) (es:List gf) (cs:wZ) (pos:EB) (a:gY) (xs:List AV) (x:Nat) (nm:j7) (pl:Ox Bool),AT[x]? =some nm->st a=some (.list xs)->x=0\/x=3->
 An es=true->LJ B n ns es cs->mP n A->FR B env ns m st s->R B st s->Io PG (eE PG n) cs m st (λvs st=>∃xs,st a=some (.list xs)/\y4 a xs st Q x vs)->
 WE B A (SD (.ref a) nm pl) (λfx s₂=>WE B A (BH pos fx.1 fx.2 (sW pos (nh es env)) []) (k4 B st s Q) s₂) s
noncomputable def Qv (B:Base) (n:Nat):Prop:=∀(ns:gn) (A:jc) (env:zv) (m:MM) (st:AS) (s:eL) (Q:AV->AS->Prop) (es:List gf) (cs:wZ) (pos:EB) (a:gY) (kvs:List (AV×AV)) (x:Nat) (nm:j7) (pl:Ox Bool),AT[x]? =some nm->st a=some (.dict kvs)->x=1\/x=2->
 An es=true->LJ B n ns es cs->mP n A->FR B env ns m st s->R B st s->Io PG (eE PG n) cs m st (λvs st=>∃kvs,st a=some (.dict kvs)/\y6 a kvs st Q x vs)->
 WE B A (SD (.ref a) nm pl) (λfx s₂=>WE B A (BH pos fx.1 fx.2 (sW pos (nh es env)) []) (k4 B st s Q) s₂) s
theorem JS (u:gV c) (Y:qn c a) (T:Qu c a) (U:Qv c a) (km:xm a0) (hl:aa.endLine=b9.line) (w:AT[d]? =some ao) (hn:az.length<20) (t:An az=true) (ho:SE c a v a0 g) (B:LJ c a v az ar):SE c a v (.Call (.Attribute a0 ao aa) az [] b9) (.fM g d ar):=λA G m st s Q l F r h=>by
 refine Hj km hl t hn (er (ho A G m st s _ l F r h) (λov O ⟨y,J,E,o,j,i⟩ H=>?_) λ_ _ e=>e)
 induction i using yc.casesOn with
 | @inst b cc dx f fs C n kq hC R i=>
  obtain rfl:=gN E
  refine gq (Dy (o.objs b _ n)) λN k S g2 q nd V=>?_
  refine eS (u.cls cc V) λC' M K=>?_
  rw [hC] at M;obtain rfl:=d5 M
  refine mW (K.Tt d ao f w R) λm1 m2 _=>?_
  refine method_fn (u.Hi o) (od:=some (rv N k)) ⟨S,rfl,rfl,g2⟩ K.get K.G' m1 (beq_iff_eq.mp m2) (by show (YH ao (rv N k)).map _=_;rw [lookIn_dict,Ct q w kq];rfl) ?_
  exact sA t B l (F.step r j) o i λx kn Z L qs P y' I=>⟨E_ u I (.fn f:RV c L.heap _ _) (u.Hi P),
   er (Y (.fn f) (.ref b::x) kn Q A (.ref (c.fa f)) (.ref b::Z) L I l P (.fn f) (.cons (.ref b) qs)) (λ_ _ p=>(p.trans y').trans j) λ_ _ e=>e⟩
 | @list b x n z i=>
  obtain rfl:=gN E
  exact er (T v A G m J O Q az ar b9 b x d ao H w n z t B l (F.step r j) o i) (λfx kl D=>er D (λ_ _ p=>p.trans j) λ_ _ e=>e) λ_ _ e=>e
 | @dict b X n z i=>
  obtain rfl:=gN E
  exact er (U v A G m J O Q az ar b9 b X d ao H w n z t B l (F.step r j) o i) (λfx kl D=>er D (λ_ _ p=>p.trans j) λ_ _ e=>e) λ_ _ e=>e
theorem hX.dropLast (r:hX c H aj j):hX c H aj.dropLast j.dropLast:=by
 rw [G2,G2,r.length];exact r.take _
theorem hX.getLast (r:hX c H aj j) (e:j.getLast? =some l):∃v,aj[aj.length -1]? =some v/\RV c H v l:=by
 rw [List.getLast?_eq_getElem?] at e
 rw [r.length];exact r.get e
theorem hX.one (r:hX c H aj [l]):∃v,aj=[v]/\RV c H v l:=by
 cases r with |cons a r=>cases r;exact ej _ rfl a
theorem hX.two (r:hX c H aj [l,af]):∃v w,aj=[v,w]/\RV c H v l/\RV c H w af:=by
 cases r with | @cons _ _ b _ a r=>refine jj b r.one λw q=>?_;exact nu _ _ rfl a q
theorem hX.three (r:hX c H aj [l,af,b7]):∃v w u,aj=[v,w,u]/\RV c H v l/\RV c H w af/\RV c H u b7:=by
 cases r with |cons a r=>refine jS r.two λw u b q d=>?_;clear r;subst b;exact sv _ _ _ rfl a q d
theorem hX.zero (r:hX c H aj []):aj=[]:=by cases r;rfl
theorem R.zT (r:R c b m) {ys:List AV} {t:Nat} {f:Array eH->Array eH} (e:b z=some (.list j)) (g:m.heap.get? z=some (listOf bf a)) (q:hX c m.heap (f bf).toList ys) (k:ys.length<=fF):
 R c (b.set z (.list ys)) {m with heap:=m.heap.update z (fK f),toks:=t}/\St c b m (b.set z (.list ys)) {m with heap:=m.heap.update z (fK f),toks:=t}:=by
 have i:iE z m.heap (m.heap.update z (fK f)):=gK ..
 obtain ⟨d,h⟩:∃d,(listOf bf a).mapSeq f=listOf (f bf) d:=⟨_,rfl⟩
 have l:(m.heap.update z (fK f)).get? z=some (listOf (f bf) d):=by
  rw [<-h];exact nE _ g (by rw [h];rfl)
 exact r.upd e i (.inl ⟨rfl,(by (repeat intro _);contradiction),(by (repeat intro _);contradiction)⟩) (.list l (q.mono (r.nO (.inl (by rw [e];simp)) i)) k)
theorem Vv:AT[0]? =some (iV "append"):=by decide+kernel
theorem Vw:AT[1]? =some (iV "get"):=by decide+kernel
theorem Vx:AT[2]? =some (iV "setdefault"):=by decide+kernel
theorem Vy:AT[3]? =some (iV "pop"):=by decide+kernel
theorem Ra (h:y4 a j b n 0 aN):∃v,aN=[v]/\j.length<fF/\n .none (b.set a (.list (j++[v]))):=by
 cases h with
 |app c q=>exact gr _ rfl c q
theorem Rb (h:y4 a j b n 3 aN):aN=[]/\∃v,j.getLast? =some v/\n v (b.set a (.list j.dropLast)):=by
 cases h with
 |pop c q=>exact tO rfl _ c q
theorem Rc (h:y6 a aC b n 1 j):∃i,IntKeys aC/\((j=[.int i]/\((∃v,(AV.int i,v)∈aC/\n v b)\/(AV.int i∉aC.map (·.1)/\n .none b)))\/∃d,j=[.int i,d]/\((∃v,(AV.int i,v)∈aC/\n v b)\/(AV.int i∉aC.map (·.1)/\n d b))):=by
 cases h with
 |Vq c q=>exact ej _ c (.inl ⟨rfl,q⟩)
 |G' c q=>exact ej _ c (.inr ⟨_,rfl,q⟩)
theorem Rd (h:y6 a aC b n 2 j):∃i d,j=[.int i,d]/\IntKeys aC/\((∃v,(AV.int i,v)∈aC/\n v b)\/(AV.int i∉aC.map (·.1)/\aC.length<fF/\n d (b.set a (.dict (aC++[(.int i,d)]))))):=by
 cases h with
 |Tg c q=>exact nu _ _ rfl c q
theorem Tx:Qu c a:=λns A kn m st s Q es cs kq V xs x nm pl j e km K I M F r h=>by
 refine gq (r.isList e) λku k g q l Z X=>?_
 rcases km with rfl |rfl
 .rw [Vv] at j;(injection j with j;subst j)
  refine ub (T:="list") (ej _ g rfl) B6 rT YK (λb o=>by (injection o with o;subst o);exact (ej _ g rfl)) ?_
  refine sA K I M F r h λY kl U J B p E d=>⟨(ej .machine (.inr (.inl rfl)) (ny rfl)),?_⟩
  refine eS d λN u d=>?_
  refine gq (p.isList u) λi H n y C R z=>?_
  obtain ⟨v,rfl,P,d⟩:=Ra d
  .refine jj U B.one λw qv=>?_
   refine vV rT (ej _ n rfl) By (SF _ _) (vY V i H w (a_ (by exact n1 z (eA P)) hY)) ⟨n,?_⟩
   obtain ⟨O,D⟩:=p.zT (t:=J.toks) (f:=λx=>x.push w) u n (ys:=N++[v]) (by rw [sm];exact y.append (.cons qv .nil)) (by rw [bh];exact P)
   exact Ca E ⟨.none,_,.none,O,D,d⟩
 .rw [Vy] at j;(injection j with j;subst j)
  refine ub (T:="list") (ej _ g rfl) B6 Es YJ (λb o=>by (injection o with o;subst o);exact (ej _ g rfl)) ?_
  refine sA K I M F r h λY kl U J B p E d=>⟨(ej .machine (.inr (.inl rfl)) (ny rfl)),?_⟩
  refine eS d λN u d=>?_
  refine gq (p.isList u) λi H n y C R z=>?_
  obtain ⟨rfl,v,S,d⟩:=Rb d
  .cases B.zero
   .refine eS (y.getLast S) λw G W=>?_
    rw [eB,gF] at G
    refine vV Es (ej _ n rfl) YO (YR _) (PySem.MeetsSeq.list_pop_last V i H w G (a_ (by exact n1 z C) hY)) ⟨n,?_⟩
    obtain ⟨O,D⟩:=p.zT (t:=J.toks) (f:=λx=>x.eraseIdxIfInBounds (i.size -1)) u n (ys:=N.dropLast) (by
     have:(i.eraseIdxIfInBounds (i.size -1)).toList=i.toList.dropLast:=by
      clear e K I M F r g q l Z X h p E u n y C R z S d B G W;obtain ⟨L⟩:=i
      simp [List.eraseIdx_eq_dropLast]
     rw [this];exact y.dropLast) (by rw [List.length_dropLast];exact a_ (jQ _ _) C)
    exact Ca E ⟨v,_,W.step p D,O,D,d⟩
theorem tj (e:aC.map (·.1)=cE.map (λa=>.int a.1)) (b:AV.int p∉aC.map (·.1)):jm cE p=none:=by
 induction c:jm cE p with
 |none=>rfl
 |some v=>exact absurd ((n0 e).mp (by rw [c];rfl)) b
theorem vC (e:KeyKind bo bp Int) (d:gY) (k:e.is p J=true) (h:(d==z9)=false) (b:eH):
 MeetsIn bo bp (vX.«dict.setdefault» ⟨[.ref d,J,b],[]⟩) (λ_ R s=>∃a,s.heap.DictAt e d a a.length/\a.length<=x6/\
  (∀v,jm a p=some v->R (.ok (.ret v)) {s with toks:=s.toks+1})/\
  (jm a p=none->∀c,c.DictAt e d (a++[(p,b)]) (a.length+1)->iE d s.heap c->R (.ok (.ret b)) {s with heap:=c,toks:=s.toks+1})):=
 .of_wp λA R s m=>rZ m λa f n l i=>by
  unfold vX.«dict.setdefault»
  refine b5 ?_
  unfold Uu
  refine b5 (wK f.dictOf.typeIs ?_)
  show gc _ _ (pure (d,J,some b)) _ _ s
  refine dk ?_
  show gc _ _ (if (d==z9)=true then _ else (GS d J b>>= _)) _ _ s
  rw [if_neg (by rw [h];exact gM)]
  exact b5 (BP k f (λv q=>dk (ej v rfl (l v q))) (λj c g o=>dk (ej b rfl (i j c g o))) n)
theorem Tz (W:gV c):Qv c a:=λns A kH m st s Q es cs kI km kC x nm pl z e ku P U S F r h=>by
 refine iK (r.oQ e) λd l=>?_
 refine wW d.obj λkD kG ep H J _=>?_
 rcases ku with rfl |rfl
 .rw [Vw] at z;(injection z with z;subst z)
  refine ub (T:="dict") (ej _ H J.1) B7 tU YM (λb C=>by (injection C with C;subst C);exact (ej _ H J.2.1)) ?_
  refine sA P U S F r h λws kz O s' K g D j=>⟨(ej .machine (.inr (.inl rfl)) (ny rfl)),?_⟩
  refine eS j λkl n j=>?_
  refine iK (g.oQ n) λy l'=>?_
  have V:=g.uA W n
  refine eS (Rc j) λi N kx=>?_
  rcases kx with ⟨rfl,Y⟩ |⟨dd,rfl,Y⟩
  .refine jj O K.one λw L=>?_
   refine rX w (gp L) λt=>?_
   refine gj (y.GN N) λZ p q k=>?_
   refine K1 tU p.dictOf.typeIs C7 (YU _ _) (meets_dict_get (t7 c) km (pI _ _ i t) V) (ej _ p.dictOf.mapOf ?_)
   rcases Y with ⟨v,B,f⟩ |⟨I,f⟩
   .refine eS (oX q k y.nodup B) λu E G=>?_
    rw [E]
    exact Ca D (post_of g (iO _ _) G f)
   .rw [tj k I]
    exact Ca D (post_of g (iO _ _) .none f)
  .refine v8 O K.two λw w2 L R=>?_
   clear W e P U S r d l H J h n l' j K;refine rX w (gp L) λt=>?_
   refine gj (y.GN N) λZ p q k=>?_
   refine K1 tU p.dictOf.typeIs C7 (YT _ _ _) (meets_dict_get_default (t7 c) km (pI _ _ i t) V w2) (ej _ p.dictOf.mapOf ?_)
   rcases Y with ⟨v,B,f⟩ |⟨I,f⟩
   .refine eS (oX q k y.nodup B) λu E G=>?_
    rw [E]
    exact Ca D (post_of g (iO _ _) G f)
   .rw [tj k I]
    exact Ca D (post_of g (iO _ _) R f)
 .rw [Vx] at z;(injection z with z;subst z)
  refine ub (T:="dict") (ej _ H J.1) B7 zu YL (λb C=>by (injection C with C;subst C);exact (ej _ H J.2.1)) ?_
  refine sA P U S F r h λws kz O s' K g D j=>⟨(ej .machine (.inr (.inl rfl)) (ny rfl)),?_⟩
  refine eS j λkl n j=>?_
  refine iK (g.oQ n) λy l'=>?_
  have V:=g.uA W n
  obtain ⟨i,dd,rfl,N,j⟩:=Rd j
  .refine v8 O K.two λw w2 L R=>?_
   clear W e P U S r d l H J h K;refine rX w (gp L) λt=>?_
   refine gj (y.GN N) λZ p q k=>?_
   have kB:Z.length=kl.length:=by have:=congrArg fj k;simpa using this.symm
   refine K1 zu p.dictOf.typeIs YP (YS _ _ _) (vC (t7 c) km (pI _ _ i t) V w2) (qU _ p (a_ (by exact n1 kB l') hY) (λv M=>?_) (λM kF kq kn=>?_))
   .rcases j with ⟨v',B,f⟩ |⟨I,_⟩
    .refine eS (oX q k y.nodup B) λu E G=>?_
     rw [E] at M;obtain rfl:=d5 M
     exact Ca D (post_of g (iO _ _) G f)
    .rw [tj k I] at M;contradiction
   .rcases j with ⟨v',B,f⟩ |⟨I,ky,f⟩
    .refine eS (oX q k y.nodup B) λu E G=>?_
     rw [E] at M;contradiction
    .have X:=g.nO (.inl (by rw [n];simp)) kn
     refine Ca D (LZ (cF:=.dict (kl++[(.int i,_)])) g n kn (.inl (iz rfl (by (repeat intro _);contradiction) (by (repeat intro _);contradiction))) (.dict (.int (by rw [bh];exact kq) ?_ ?_) ?_) (R.mono X) f)
     .rw [b_,b_];exact (q.mono X).append (.cons (R.mono X) .nil)
     .rw [b_,b_,k];rfl
     .rw [bh];exact ky
noncomputable def zE (B:Base) (k:Nat):Prop:=∀(A:jc) (args:List AV) (st:AS) (Q:AV->AS->Prop) (vs:List eH) (s:eL),Il k args st Q->mP 1 A->R B st s->hX B s.heap vs args->WE B A (nC (Ap k) vs []) (k4 B st s Q) s
theorem qG {Q:AV->Prop} (h:One Q j):∃v,j=[v]/\Q v:=by induction h with |mk q=>exact ej _ rfl q
theorem O2 {Q:AV->AV->Prop} (h:Vp Q j):∃v w,j=[v,w]/\Q v w:=by induction h with |mk q=>exact nB _ _ rfl q
theorem zU {Q:Int->Prop} (h:G9 Q l):∃i,l= .int i/\Q i:=by induction h with |mk q=>exact ej _ rfl q
variable {cW:List AV->Prop}
theorem O3 (h:OM b cW l):∃c,cW c/\(l= .tup c\/∃a,l= .ref a/\b a=some (.list c)):=by
 induction h with
 |tup q=>exact ej _ q (.inl rfl)
 |list e q=>exact ej _ q (.inr ⟨_,rfl,e⟩)
theorem xn (h:Cj b cW l):∃a c,l= .ref a/\b a=some (.list c)/\cW c:=by induction h with |mk e q=>exact nu _ _ rfl e q
theorem Rf (B:gV c):zE c 0:=λA D E Q z s h C r i=>by
 replace h:=qG h
 obtain ⟨v,rfl,h⟩:=h
 refine jj z i.one λw f=>?_
 clear C i;induction h with
 | @tup j h=>
  refine g5 w (iB f) λa o k e l q=>?_
  have b:o.size=j.length:=by rw [<-q.length,eB]
  refine P.len_tuple e (by unfold fF at l;exact WT l) ?_
  rw [b]
  exact post_of r (iO _ _) (.int _ _) (h (by exact n1 b.symm l))
 | @list a j e h=>
  obtain rfl:=gN f
  refine gq (r.isList e) λF k g q l y b=>?_
  refine call_len_list y (by unfold fF at l;exact JB (n1 b l)) ?_
  rw [b]
  exact post_of r (iO _ _) (.int _ _) (h l)
 | @dict a u e p h=>
  obtain rfl:=gN f
  refine iK (r.oQ e) λd l=>?_
  refine gj (d.GN p) λt n q x=>?_
  have m:t.length=u.length:=by have:=congrArg fj x;simpa using this.symm
  refine call_len_dict (r.uA B e) n.dictOf (by unfold fF at l;exact JB (n1 m l)) ?_
  rw [m]
  rw [bb] at h
  exact post_of r (iO _ _) (.int _ _) (h l)
theorem L5 (q:hX c H aj j) (d:∀x∈j,∃i,x= .int i):∃b:List Int,j=b.map .int/\GD aj b:=by
 induction aj generalizing j with
 |nil=>cases q;exact ej [] rfl .nil
 |cons v aj g=>
  cases q with
  |cons a q=>
   refine j_ (d _ (.head _)) λi e=>?_;subst e
   refine rX v (gp a) λt=>?_
   obtain ⟨b,rfl,f⟩:=g q λx h=>d x (.tail _ h)
   exact ej (i::b) rfl (.cons i t f)
theorem Rg:zE c 2:=λA kl st Q V s h E r z=>by
 replace h:=qG h;obtain ⟨Y,rfl,h⟩:=h
 replace h:=xn h;obtain ⟨a,xs,rfl,e,h⟩:=h
 refine jj V z.one λw B=>?_
 have:=gN B;subst this
 refine gj h λm p J F=>?_
 refine gq (r.isList e) λkm k g q l C L=>?_
 obtain ⟨f,rfl,u⟩:=L5 q λx W=>eS (p x W) λi e _=>⟨i,e⟩
 refine j_ u.allInts.items λb y=>?_
 have d:f=b.toList.map (·.1):=by rw [<-u.numsOf,<-nums_intItems,<-y]
 have H:0<b.size:=by
  have o:0<f.length:=by
   clear E r h z B F g C e p q l L u y d;induction f using el with
   |nil=>contradiction
   |cons _ _=>exact fB _
  rw [d,bb,eB] at o;exact o
 have K:s.heap.IsList a (intItems b):=by rw [<-y,Array.toArray_toList];exact C
 refine min_intList E.handled K H λv Z tk M N=>?_
 refine rX v (intItems_at M) λt=>?_
 refine iK (argBest_lt (Em b) (b.size -1)) λo R=>?_
 have X:Em b (Wl (λi j=>decide (Em b i<Em b j)) (b.size -1))=m:=by
  apply uZ
  .clear E r z B F g C e p q l L u y K N M o;refine eS (ck.mp J) λT P G=>?_
   injection G with G
   clear J;subst G
   refine j_ (eZ.mp P) λj O=>?_
   have S:j<b.size:=by
    have:=(ew.mp O).1
    rw [d,bb] at this;simpa using this
   have:=R j (by exact (λ{m n} h=>(Nat.le_sub_one_iff_lt h).mpr) H S)
   have I:Em b j=T:=by rw [numAt_eq,<-d,ec,O];rfl
   exact le_of_le_of_eq this I
  .have U:Em b (Wl (λi j=>decide (Em b i<Em b j)) (b.size -1))∈f:=by
    rw [numAt_eq,<-d,ec]
    have:Wl (λi j=>decide (Em b i<Em b j)) (b.size -1)<f.length:=by rw [d,bb,eB];exact zy H o
    rw [dj this];exact fO _
   refine eS (p _ (ck.mpr ⟨_,U,rfl⟩)) λi D I=>?_
   injection D with D;exact le_of_le_of_eq I (id (rG D))
 rw [X]
 exact post_of r (qx N) (.int _ _) F
theorem Rh:zE c 3:=λA n e Q f s h k r b=>by
 replace h:=O2 h;obtain ⟨m,p,rfl,h⟩:=h
 replace h:=zU h;obtain ⟨i,rfl,h⟩:=h
 replace h:=zU h;obtain ⟨j,rfl,h⟩:=h
 refine v8 f b.two λv w d l=>?_
 clear b;refine rX v (gp d) λt=>?_
 refine rX w (gp l) λu=>?_
 have h:Q (.int (max i j)) e:=h
 refine Flt.max_two_num k.handled (.int i t) (.int j u) λo q g=>?_
 refine post_of r (qx g) ?_ h
 show RV c _ (if decide (i<j)=true then _ else _) _
 by_cases a:i<j
 .simp only [a,decide_true,if_true];rw [qj (zB a)];exact .int _ _
 .simp only [a,decide_false,fX,if_false];rw [Qk (by (first |exact mN a |exact nr.mp a))];exact .int _ _
theorem L6:zE c 4:=λA l x Q d s h e r b=>by
 obtain ⟨f,rfl,h⟩:∃f:List Int,l=f.map .int/\JC _ f:=h
 induction h using JC.casesOn with
 | @one i h=>
  refine jj d b.one λv a=>?_
  clear e b;refine rX v (gp a) λt=>?_
  have g:=(iO s (s.toks+1+1)).trans (jw {s with toks:=s.toks+1+1} {cls:=.type "range",data:=.fields #[.int 0 s.toks,.int i t,.int 1 (s.toks+1)]})
  exact call_range_1 (post_of r g (.pU (eW _ rfl) (by decide) h.2.1) h.2.2)
 | @two i j h=>
  refine v8 d b.two λv w a k=>?_
  clear e b;refine rX v (gp a) λt=>?_
  clear a;refine rX w (gp k) λu=>?_
  have g:=(iO s (s.toks+1)).trans (jw {s with toks:=s.toks+1} {cls:=.type "range",data:=.fields #[.int i t,.int j u,.int 1 s.toks]})
  exact call_range_2 (post_of r g (.pU (eW _ rfl) h.1 h.2.1) h.2.2)
 | @down i j h=>
  refine g5 d b.three λv w z a k p=>?_
  clear e b;refine rX v (gp a) λt=>?_
  refine rX w (gp k) λu=>?_
  refine rX z (gp p) λo=>?_
  refine mW h λq n m=>?_
  have g:=jw s {cls:=.type "range",data:=.fields #[.int i t,.int j u,.int (-1) o]}
  exact call_range_3 (by decide) (post_of r g (.pU (eW _ rfl) q n) m) (.inl (PyProof.noPylong_small (by decide)))
theorem L7:zE c 5:=λA y z Q p s h u r j=>by
 replace h:=qG h;obtain ⟨x,rfl,h⟩:=h
 replace h:=xn h;obtain ⟨a,B,rfl,e,h⟩:=h
 refine jj p j.one λv d=>?_
 have:=gN d;clear u j d;subst this
 refine gq (r.isList e) λw k g q l o m=>?_
 refine call_tuple_list o (λf t=>?_) (a_ (by exact n1 m l) hY)
 have i:fI s {s with heap:=f}:=qx t
 have b:=jw {s with heap:=f} {cls:=.type "tuple",data:=.seq w}
 exact post_of r (i.trans b) (.tup (n:=0) (eW _ rfl) (by exact n1 m l) (q.grow (i.trans b))) h
theorem Ri:zE c 8:=λA j d Q e s h f r a=>by
 replace h:=qG h;obtain ⟨g,rfl,h⟩:=h
 replace h:=zU h;obtain ⟨i,rfl,h⟩:=h
 refine jj e a.one λv b=>?_
 clear f a;refine rX v (gp b) λt=>?_
 have h:Q (.int i.natAbs) d:=h
 refine call_abs_int λu k=>post_of r (iO _ _) ?_ h
 have:(if i<0 then -i else i)=(i.natAbs:Int):=by split<;>(first |exact (Int.natAbs_of_nonneg (nr.mp (by assumption))).symm |exact (C8 (zB (by assumption))).symm)
 rw [this];exact .int _ _
theorem Rj:zE c 9:=λA j e Q f s h b r a=>by
 replace h:=qG h;obtain ⟨g,rfl,h⟩:=h
 replace h:=zU h;obtain ⟨i,rfl,h⟩:=h
 refine jj f a.one λv d=>?_
 clear b a;refine rX v (gp d) λt=>?_
 have h:Q (.int i) e:=h
 exact call_int_int (post_of r (hJ _) (.int _ _) h)
theorem R.L8 {o:AO} (r:R c b m) (g:fI m ae) (s:m.heap.get? z=none) (B:RO c ae.heap z o) (w:∀n v l,o≠.inst n v l):
 b.free z/\R c (b.set z o) ae/\St c b m (b.set z o) ae:=by
 have t:¬ic c b z:=λf=>by refine eS (r.oD f) λi G _=>?_;rw [s] at G;contradiction
 have A:c.h₀.get? z=none:=by
  induction e:c.h₀.get? z using d_ with
  |none=>rfl
  |some i=>rw [r.old z i e] at s;contradiction
 have u:b.free z:=⟨by
  induction e:b z using d_ with
  |none=>rfl
  |some i=>exact absurd (.inl (by rw [e];simp)) t,λd n l e=>t (.inr (.inl (qA d n l e)))⟩
 have y:z≠c.tab:=λe=>t (.inr (.inr e))
 have x:∀d,ic c (b.set z o) d->ic c b d\/d=z:=by
  clear r g s B t A u y;rintro d (h |⟨a,n,l,h⟩ |h)
  .by_cases j:d=z
   .exact .inr j
   .rw [gw j] at h;exact .inl (.inl h)
  .by_cases k:a=z
   .subst k;rw [gX] at h;(injection h with h;subst h);exact absurd rfl (w _ _ _)
   .rw [gw k] at h;exact .inl (.inr (.inl (qA a n l h)))
  .exact .inl (.inr (.inr h))
 refine iz u ⟨λa i e=>?_,λd i e=>g.keep _ _ (r.old d i e),λd j=>?_,λa n v l e=>?_,?_,?_,g.gens.trans r.gens,g.os.trans r.os⟩ ⟨λd i e _=>g.keep d i e,λd j=>?_⟩
 .clear s w t A u y x;by_cases k:a=z
  .clear r g;subst k;rw [gX] at e;(injection e with e;subst e);exact B
  .rw [gw k] at e;exact (r.objs a i e).grow g
 .rcases x d j with h |rfl
  .exact r.new d h
  .exact A
 .have k:a≠z:=λq=>by subst q;rw [gX] at e;(injection e with e;subst e);exact absurd rfl (w _ _ _)
  rw [gw k] at e
  refine mW (r.Cq a n v l e) λE D F=>?_
  have C:v≠z:=λq=>u.2 a n l (q▸e)
  refine iz (by rw [gw C];exact E) D (λd I H p=>?_)
  clear r g s B t A u y x e k E D C;by_cases j:d=z
  .subst j;rw [gX] at p;(injection p with p;subst p);exact absurd rfl (w _ _ _)
  .rw [gw j] at p;exact F d I H p
 .rw [gw (nA y)];exact r.vB
 .exact r.tab.mono (λa o e _=>g.keep a o e) λo e=>g.keep _ o e
 .rcases x d j with h |rfl
  .exact .inl h
  .exact .inr s
theorem uE (r:R c b m) (g:fI m ae) (j:m.heap.get? z=none) (e:RO c ae.heap z ay) (l:∀d k i,ay≠.inst d k i) (h:∀d,b.free d->n (.ref d) (b.set d ay)):k4 c b m n (.ref z) ae:=
 let ⟨f,a,o⟩:=r.L8 g j e l
 ⟨.ref z,_,.ref z,a,o,h z f⟩
theorem O4:zE c 10:=λA B o Q p s h x r f=>by
 replace h:=qG h;obtain ⟨y,rfl,h⟩:=h
 refine eS (O3 h) λu h e=>?_
 refine jj p f.one λv d=>?_
 have i:∀{a:gY} {T:String} {b:Array eH} {k:Nat},(T="list"\/T="tuple")->s.heap.get? a=some (gu T b k)->b.size<=fF->hX c s.heap b.toList u->WE c A (nC (Ap 10) [.ref a] []) (k4 c o s Q) s:=λ{a T b k} n e l q=>by
  refine call_list_seq a n e rfl rfl (λj D w t=>?_) (a_ l hY)
  have g:fI s {s with heap:=j}:=qx w
  exact uE r g (ik _) (.list t (q.grow g) (by rw [<-q.length,eB];exact l)) (by (repeat intro _);contradiction) h
 clear x h f;clear h;rcases e with rfl |⟨a,rfl,e⟩
 .refine g5 v (iB d) λa b k e l q=>?_
  exact i (.inr rfl) e l q
 .have:=gN d;clear d;subst this
  refine gq (r.isList e) λC k g q l z m=>?_
  exact i (.inl rfl) g (by rw [m];exact l) q
theorem Rk:zE c 7:=λG R T Q H s h C r z=>by
 replace h:=qG h;obtain ⟨L,rfl,h⟩:=h
 replace h:=xn h;obtain ⟨a,U,rfl,e,h⟩:=h
 refine jj H z.one λv B=>?_
 have:=gN B;subst this
 refine eS h λf E D=>?_;clear h;subst E
 refine gq (r.isList e) λn k g q l p o=>?_
 have J:∀(d:Nat) (v:eH),n[d]? =some v->∃b,f[d]? =some b/\v= .bool b:=by
  intro d v t
  have j:=(Array.getElem?_eq_some_iff.mp t).1
  have y:d<f.length:=by rw [o,bb] at j;exact j
  obtain ⟨w,m,K⟩:=q.get (i:=d) (x:=.bool f[d]) (by rw [ee,dj y];rfl)
  rw [gF,t] at m;clear C r z B e D g q l p o t j;(injection m with m;subst m)
  obtain rfl:=xb K
  exact ej _ (dj y) rfl
 have j:a<s.heap.objs.size:=rq g
 refine call_any_walk (BG p ?_)
 refine ⟨s.heap.objs.size,[s.heap.objs.size,a],[s.heap.objs.size],n.size,_,_,(λd=>(f[d]?).getD false),rfl,(Walks.list (A:=G.in1) C.handled _ a (rx j) n),⟨⟨_,eW _ rfl,rfl,rfl⟩,p.push _⟩,(λd v S P N F u=>?_),(λM O I=>?_)⟩
 .refine Lg v (J d v F) λb e=>?_
  simp only [e,Option.getD_some] at u
  exact oq u
 .have e:((eQ n.size).any λd=>(f[d]?).getD false)=f.any id:=by
   rw [o,bb];exact LSm.range_any f
  rw [e]
  exact post_of r (qx (LSm.kept_iter I)) (.bool _) D
noncomputable def Own (ns:gn) (env:zv) (p:gY):Prop:=p=env.locals\/∃x,h_ ns x=some .cell/\env.cells.lookup x=some p
structure zF (B:Base) (env:zv) (ns:gn) (st:AS) (s:eL) (st':AS) (s':eL):Prop where
 keep:∀b o,s.heap.get? b=some o->¬ic B st b->¬Own ns env b->s'.heap.get? b=some o
 foot:∀b,ic B st' b->ic B st b\/s.heap.get? b=none
structure vM (I:gY) (s s':eL):Prop where
 keep:∀b o,b≠I->s.heap.get? b=some o->s'.heap.get? b=some o
 gens:s'.gens=s.gens
 os:s'.os=s.os
theorem St.toF (x:St c b m q ae):zF c ab v b m q ae:=⟨λa o e f _=>x.keep a o e f,x.foot⟩
theorem FR.xo (F:FR c ab v e b m) (w:Own v ab z):∃o,m.heap.get? z=some o/\¬f_ o/\¬ic c b z/\c.h₀.get? z=none:=by
 rcases w with rfl |⟨x,l,h⟩
 .refine Ae F.BQ λf o n j d a _=>?_
  exact qU o d (rJ a) F.E0.1 F.E0.2
 .refine oJ (F.Du x z h) λi g k o d a=>?_
  exact qU o d (λq=>q.2.2 _ a) i g
theorem zF.trans (x:zF c ab v b m q ae) (F:FR c ab v e q ae) (y:zF c ab v q ae ax aZ):zF c ab v b m ax aZ where
 keep a o d f w:=y.keep a o (x.keep a o d f w) (λj=>(x.foot a j).elim f λl=>by rw [l] at d;contradiction) w
 foot a f:=(y.foot a f).elim (x.foot a) λl=>by
  by_cases g:ic c b a
  .exact .inl g
  .by_cases h:Own v ab a
   .refine eS (F.xo h) λo i _=>?_
    rw [l] at i;contradiction
   .induction d:m.heap.get? a with
    |none=>exact .inr rfl
    |some o=>rw [x.keep a o d g h] at l;contradiction
theorem zF.refl:zF c ab v b m b m:=St.refl.toF
theorem zF.frozen (r:R c b m) (F:FR c ab v e b m) (y:zF c ab v b m q ae):∀a o,m.heap.get? a=some o->f_ o->ae.heap.get? a=some o:=λa o g f=>
 y.keep a o g (λi=>by
  refine eS (r.oD i) λh d n=>?_
  rw [g] at d;(injection d with d;subst d);exact n f) λw=>by
  refine gj (F.xo w) λh d n _=>?_
  rw [g] at d;(injection d with d;subst d);exact n f
theorem hX.Cu (a:hX c m.heap aj j) (r:R c b m) (F:FR c ab v e b m) (y:zF c ab v b m q ae):hX c ae.heap aj j:=a.mono (y.frozen r F)
theorem R.but (r:R c b m) (d:vM z m ae) (g:¬ic c b z) (k:c.h₀.get? z=none) (i:∀o,m.heap.get? z=some o->¬f_ o):R c b ae where
 objs a o e:=(r.objs a o e).mono (λx h f j=>d.keep x h (λq=>by clear r d g k e;subst q;exact i _ f j) f) (λx f=>d.keep a x (λq=>g (.inl (by rw [<-q,e];simp))) f)
  λt p n q x f=>d.keep p x (λs=>g (.inr (.inl (qA a t n (by rw [e,q,s]))))) f
 old l o e:=d.keep l o (λq=>by clear r d g i;subst q;rw [k] at e;contradiction) (r.old l o e)
 new:=r.new
 Cq:=r.Cq
 vB:=r.vB
 tab:=r.tab.mono (λx h f j=>d.keep x h (λq=>by clear r d g k;subst q;exact i _ f j) f) λo e=>d.keep _ o (λq=>g (.inr (.inr q.symm))) e
 gens:=d.gens.trans r.gens
 os:=d.os.trans r.os
theorem RV.but (q:RV c m.heap J l) (b:vM z m ae) (d:∀o,m.heap.get? z=some o->¬f_ o):RV c ae.heap J l:=
 q.mono λa o e f=>b.keep a o (λh=>by clear q b;subst h;exact d _ e f) e
theorem hX.but (q:hX c m.heap aj j) (b:vM z m ae) (d:∀o,m.heap.get? z=some o->¬f_ o):hX c ae.heap aj j:=
 q.mono λa o e f=>b.keep a o (λh=>by clear q b;subst h;exact d _ e f) e
theorem FR.but (F:FR c ab v e b m) (j:vM z m ae) (l:ab.locals≠z) (n:∀x d,ab.cells.lookup x=some d->d≠z) (w:∀o,m.heap.get? z=some o->¬f_ o):FR c ab v e b ae where
 ok:=F.ok
 holds i x p r s:=(F.holds i x p r s).mono (λa o g f=>j.keep a o (λh=>by clear F j l n r s;subst h;exact w _ g f) g) (λo g=>j.keep _ o l g) λx d h o g=>j.keep d o (n x d h) g
 len:=F.len
 BQ:=wY F.BQ λf o y u k q=>⟨f,o,y,u,(j.keep _ _ l k),q⟩
 E0:=F.E0
 Du x d h:=oJ (F.Du x d h) λa A p o k t=>(rH a A p o (j.keep _ _ (n x d h) k) t)
 code:=F.code
theorem Fd (h:(v.map (·.1)).Nodup):(slots v).Nodup:=by
 unfold slots
 exact h.sublist (UH _ List.filter_sublist)
theorem DA {k a:vz} (h:h_ v ao=some k) (b:h_ v ao=some a):k=a:=by rw [h] at b;exact d5 b
set_option tactic.hygienic true in
theorem pO (F:FR c ab v e b m) (r:R c b m) (X:om v ao=some a) (S:RV c m.heap J l) (h:∀s',FR c ab v (e.set a (some l)) b s'->R c b s'->zF c ab v b m b s'->bq () s'):WE c L (Sx ab ao J) bq m:=by
 unfold om at X
 split at X
 .rename_i k D
  split at X
  .rename_i kq
   have P:=pj X
   have Q:=Fd F.ok.nd
   have O:ab.scope.kind= .function:=F.ok.kind
   clear X;induction k with
   |«local»=>
    have kx:=F.ok.loc ao D
    clear D kq;refine j_ F.BQ λf Y=>?_
    obtain ⟨oL,kG,kB,kF,kD⟩:=(F.xo (.inl rfl))
    refine wpAny_storeName_local kx Y (λE y N=>?_) (by rw [O];rfl)
    have i:vM ab.locals m {m with heap:=E,toks:=m.toks+1}:=⟨λA o i d=>(N.2 A i).trans d,rfl,rfl⟩
    have ky:∀o,m.heap.get? ab.locals=some o->¬f_ o:=λo d=>by rw [kG] at d;(injection d with d;subst d);exact kB
    have u:∀x o,m.heap.get? x=some o->f_ o->E.get? x=some o:=λx o d z=>i.keep x o (λq=>by subst q;exact ky _ d z) d
    have kl:∀z n,ab.cells.lookup z=some n->∀o,m.heap.get? n=some o->E.get? n=some o:=λz n G o d=>i.keep n o (λq=>F.ok.Hf z n G q.symm) d
    refine h _ ⟨F.ok,λj z w p g=>?_,by rw [gJ];exact F.len,(oK _ y),F.E0,λz n G=>?_,F.code⟩ (r.but i kF kD ky) ⟨λA o d _ nw=>i.keep A o (λq=>nw (.inl q)) d,λA fb=>.inl fb⟩
    .clear r h O kG kB kF kD N i ky;by_cases H:j=a
     .clear F Q Y kl;subst H
      rw [P] at p;(injection p with p;subst p)
      rw [nK] at g
      split at g
      .split at g
       .injection g with g;injection g with g;subst g
        exact .inl (nX kx _ J y (by simp) (S.mono u))
       .contradiction
      .rename_i kz;exact absurd rfl kz
     .rw [iH (nA H)] at g
      have ku:z≠ao:=λq=>by
       clear F S kx Y y u kl g;subst q
       exact H ((iR (ew.mp p).1 Q).mp (p.trans P.symm))
      rcases F.holds j z w p g with ⟨M,f1,C,n1,e1,K⟩ |⟨M,n,C,s,⟨o,t,B⟩,K⟩
      .refine .inl (nX M _ C y ?_ (K.mono u))
       show (if z=ao then some J else f z)=some C
       rw [if_neg ku]
       rw [Heap.Ns.agree Y n1 z];exact e1
      .exact .inr (nX M n C s ⟨o,kl z n s o t,B⟩ (K.mono u))
    .refine oJ (F.Du z n G) λa1 Z w o t B=>?_
     exact rH a1 Z w o (kl z n G o t) B
   |cell=>
    have U:=F.ok.own ao D
    obtain ⟨_,n,s⟩:=(F.ok.var ao .cell D (.inl rfl))
    refine oJ (F.Du ao n s) λfc kn kK oc T V=>?_
    have km:∀o,m.heap.get? n=some o->¬f_ o:=λo d q=>by rw [T] at d;(injection d with d;subst d);exact q.2.2 _ V
    refine wpAny_storeName_cell O U s (ej oc T V) λE y N=>?_
    have i:vM n m {m with heap:=E}:=⟨λA o i d=>(N.2 A i).trans d,rfl,rfl⟩
    have u:∀x o,m.heap.get? x=some o->f_ o->E.get? x=some o:=λx o d z=>i.keep x o (λq=>by clear F r S h P Q O D kq U s fc kn T V y N i;subst q;exact km _ d z) d
    have W:∀o,m.heap.get? ab.locals=some o->E.get? ab.locals=some o:=λo d=>i.keep _ o (F.ok.Hf ao n s) d
    refine h _ ⟨F.ok,λj z w p g=>?_,by rw [gJ];exact F.len,?_,F.E0,λz I G=>?_,F.code⟩ (r.but i fc kn km) ⟨λA o d _ nw=>i.keep A o (λq=>nw (.inr (ej ao D (q▸s)))) d,λA fb=>.inl fb⟩
    .clear r h O D kq fc kn T V km N;by_cases H:j=a
     .clear F Q i W;subst H
      rw [P] at p;(injection p with p;subst p)
      rw [nK] at g
      split at g
      .split at g
       .injection g with g;injection g with g;subst g
        exact .inr (nX (by rw [U];simp) n J s y (S.mono u))
       .contradiction
      .rename_i kz;exact absurd rfl kz
     .rw [iH (nA H)] at g
      have ku:z≠ao:=λq=>by
       clear F S U s y i u W g;subst q
       exact H ((iR (ew.mp p).1 Q).mp (p.trans P.symm))
      rcases F.holds j z w p g with ⟨M,f1,C,⟨o,es,ep,t,q2⟩,e1,K⟩ |⟨M,I,C,kC,⟨o,t,B⟩,K⟩
      .exact .inl (nX M f1 C ⟨o,es,ep,W o t,q2⟩ e1 (K.mono u))
      .exact .inr (nX M I C kC ⟨o,i.keep I o (λq=>ku (F.ok.apart z ao I kC (q▸s))) t,B⟩ (K.mono u))
    .obtain ⟨f,o,es,ep,t,q2⟩:=F.BQ
     exact ⟨f,o,es,ep,(W o t),q2⟩
    .clear r S h P Q O D kq U s fc kn T V km N u W;refine oJ (F.Du z I G) λa1 Z w o t B=>?_
     clear F G;by_cases kH:I=n
     .clear i t B;subst kH;refine eS y λo' kI kJ=>?_;exact rH a1 Z _ o' kI kJ
     .exact rH a1 Z w o (i.keep I o kH t) B
   |_=>contradiction
  .contradiction
 .contradiction
inductive wJ (B:Base) (h:vW) (I:gY):It->List AV->Nat->Prop where
 |list {a:gY} {xs:List AV} {i:Nat}:h.IsListIter I a i->a≠I->wJ B h I (.list a xs) xs i
 |tup {t:gY} {items:Array eH} {n:Nat} {xs:List AV} {i:Nat}:h.IsTupleIter I t i->h.get? t=some (gu "tuple" items n)->hX B h items.toList xs->t≠I->wJ B h I .tup xs i
 |dict {a:gY} {ks:List AV} {i:Nat}:h.IsKeyIter I a i ks.length ks.length->a≠I->(∀k∈ks,∃i,k= .int i)->wJ B h I (.dict a ks) ks i
 |pU {x left step:Int} {xs:List AV} {i:Nat}:IsRangeIter h I x left step->0<=left->xs.drop i=(eQ left.toNat).map (λ(k:Nat)=>.int (x+step*k))->wJ B h I .pU xs i
variable {bC:It}
theorem wJ.mono (q:wJ c H z bC j a) (i:∀d o,H.get? d=some o->f_ o->b8.get? d=some o) (g:∀o,H.get? z=some o->b8.get? z=some o):wJ c b8 z bC j a:=by
 induction q with
 |list d b=>refine eS d λo f r=>?_;exact .list (ej o (g _ f) r) b
 |tup d e r b=>refine eS d λo f k=>?_;exact .tup (ej o (g _ f) k) (i _ _ e (iz (.inl rfl) (by (repeat intro _);contradiction) (by (repeat intro _);contradiction))) (r.mono i) b
 |dict d b h=>refine eS d λo f r=>?_;exact .dict (ej o (g _ f) r) b h
 |pU d b h=>exact .pU (g _ d) b h
theorem wJ.nf (q:wJ c H z bC j a):∃o,H.get? z=some o/\¬f_ o:=by
 have i:∀{o:YI} {T:String},o.cls= .type T->T≠"tuple"->T≠"range"->T≠"code"->¬f_ o:=λd m l k f=>by
  rcases f.1 with q |q |q<;>rw [d] at q<;>injection q with q
  .exact m q
  .exact l q
  .exact k q
 induction q using wJ.casesOn with
 |list g b=>refine gj g λo h d _=>?_;exact ej o h (i d (by decide) (by decide) (by decide))
 |tup g e r b=>refine gj g λo h d _=>?_;exact ej o h (i d (by decide) (by decide) (by decide))
 |dict g b n=>refine gj g λo h d _=>?_;exact ej o h (i d (by decide) (by decide) (by decide))
 |pU g b n=>exact ej _ g (i rfl (by decide) (by decide) (by decide))
theorem L9 (c:p.natAbs<=1000000) (b:aB.natAbs<=1000000) (d:bZ=1\/bZ= -1):Bz p aB bZ=true:=by
 have a:∀x:Int,x.natAbs<=3000000->wF x=true:=by
  intro x f
  unfold wF
  simp only [eV,decide_eq_true_eq]
  exact Q8 f
 have e:(iw p aB bZ).natAbs<=3000000:=by
  unfold iw
  rcases d with rfl |rfl
  .simp only [show (1:Int)>0 by decide,if_true,pM]
   split<;>(first |exact V2 c b |exact fy _)
  .simp only [show ¬(-1:Int)>0 by decide,if_false,BD,pM]
   split<;>(first |exact V2 b c |exact fy _)
 unfold Bz
 rw [a p (by exact a_ c (by decide)),a aB (by exact a_ b (by decide)),a bZ (by (clear c b a e;rcases d with rfl |rfl<;>decide)),a _ e]
 clear c e;rcases d with rfl |rfl
 .simp only [show (1:Int)>0 by decide,if_true];rw [a _ (by exact n1 (congrArg Ld (S4 aB)) (a_ b (by decide)))];simp
 .simp only [show ¬(-1:Int)>0 by decide,if_false];rw [a _ (by exact n1 (congrArg Ld (S4 aB)) (a_ b (by decide)))];simp
variable {bH:It->List AV->Prop}
theorem wb (B:gV c) (r:R c b m) (v:RV c m.heap J l) (h:oi b bH l):
 WE c L (QT J) (λN A=>∃I t j,N= .ref I/\fI m A/\m.heap.get? I=none/\wJ c A.heap I t j 0/\bH t j) m:=by
 have s:∀{a:gY} {o:YI},m.heap.get? a=some o->a≠m.heap.objs.size:=λe q=>by subst q;rw [ik] at e;contradiction
 induction h with
 | @tup j h=>
  refine g5 J (iB v) λa T k e x q=>?_
  refine wpAny_pyIter_tuple (sY _ e rfl _ rfl) (gC _ _ _ rfl (jw _ _) (ik _) (.tup ⟨_,eW _ rfl,rfl,rfl⟩ (fo _ e) (q.grow (jw m _)) (s e)) h)
 | @pU n i u j f h=>
  cases v with
  |pU D E z=>
   have w:u=1\/u= -1:=by
    unfold w' at f
    by_cases C:u=1
    .exact .inl C
    .rw [if_neg C] at f
     by_cases F:u= -1
     .exact .inr F
     .rw [if_neg F] at f;contradiction
   refine wpAny_pyIter_range D (L9 E z w) (gC _ _ _ rfl (jw _ _) (ik _) (.pU (eW _ rfl) ?_ ?_) h)
   .unfold iw
    rcases w with rfl |rfl
    .simp only [show (1:Int)>0 by decide,if_true,pM];split<;>(first |exact v7 _ |exact V3 (by assumption))
    .simp only [show ¬(-1:Int)>0 by decide,if_false,BD,pM];split<;>(first |exact v7 _ |exact V3 (by assumption))
   .unfold w' at f
    clear B r s h E z D;rcases w with rfl |rfl
    .rw [if_pos rfl] at f;(injection f with f;subst f)
     have:(iw n i 1).toNat=(i -n).toNat:=by
      unfold iw
      simp only [show (1:Int)>0 by decide,if_true,pM];split<;>(first |exact congrArg qi (nq _ _) |exact V4 (by assumption))
     rw [this,rF]
     apply fm;intro k _;congr 1;rw [UK]
    .rw [if_neg (by decide),if_pos rfl] at f;(injection f with f;subst f)
     have:(iw n i (-1)).toNat=(n -i).toNat:=by
      unfold iw
      simp only [show ¬(-1:Int)>0 by decide,if_false,BD,pM];split<;>(first |exact congrArg qi (nq _ _) |exact V4 (by assumption))
     rw [this,rF]
     apply fm;intro k _;congr 1;exact V5
 | @list a j e h=>
  obtain rfl:=gN v
  refine gq (r.isList e) λV k g q x P U=>?_
  exact BG P (gC _ _ _ rfl (jw _ _) (ik _) (.list ⟨_,eW _ rfl,rfl,rfl⟩ (s g)) h)
 | @dict a K e i h=>
  obtain rfl:=gN v
  refine iK (r.oQ e) λd x=>?_
  refine gj (d.GN i) λH y q M=>?_
  have S:H.length=(K.map (·.1)).length:=by have:=congrArg fj M;simpa using this.symm
  refine wpAny_pyIter_dict (r.uA B e) y (gC _ _ _ rfl (jw _ _) (ik _) (.dict ?_ ?_ (λk Q=>by refine iQ k (ck.mp Q) λp O=>?_;exact i p O)) h)
  .rw [<-S];exact gr _ (eW _ rfl) rfl rfl
  .refine i5 y λo W G _=>?_;exact s G
theorem Hk (q:wJ c m.heap z bC j a) (h:aG (.ref z) m):WE c L (QT (.ref z)) aG m:=by
 induction q with
 |list d b=>exact wpAny_pyIter_listiter d h
 |tup d e r b=>exact wpAny_pyIter_tupleiter d h
 |dict d b f=>exact wpAny_pyIter_keyiter d h
 |pU d b f=>exact wpAny_pyIter_rangeiter d h
set_option tactic.hygienic true in
theorem int_is (h:(Wj bo bp).is p J=true):∃t,J= .int p t:=by
 rcases J with ⟨⟩<;>simp [Wj,Value.isInt] at h
 rename_i i t;subst h;exact ⟨t,rfl⟩
set_option tactic.hygienic true in
theorem wJ.next {A:jc} (q:wJ c m.heap z bC j a) (r:R c b m) (G:bC.ok b) (C:j[a]? =some l):
 WE c A (UY (.ref z)) (λkq J=>∃w,kq=some w/\vM z m J/\wJ c J.heap z bC j (a+1)/\RV c J.heap w l) m:=by
 refine eS q.nf λoI W Q=>?_
 have B:∀{u:vW} {t:Nat},iE z m.heap u->vM z m {m with heap:=u,toks:=t}:=λi=>⟨λs o B e=>(i.2 s B).trans e,rfl,rfl⟩
 have H:∀{u:vW},iE z m.heap u->∀n o,m.heap.get? n=some o->f_ o->u.get? n=some o:=λi n o e f=>(i.2 n λkn=>by clear q r G C B i;subst kn;rw [W] at e;(injection e with e;subst e);exact Q f).trans e
 cases q with
 |list n s=>
  rename_i la
  refine gq (r.isList G) λkz Y g q Z il hz=>?_
  refine eS (q.get C) λw E O=>?_
  rw [gF] at E
  exact wpAny_pyNext_list_item n il E λu x i=>qU w rfl (B i) (.list x s) (O.mono (H i))
 |tup n e q s=>
  refine eS (q.get C) λw E O=>?_
  rw [gF] at E
  exact wpAny_pyNext_tuple_item n (sY _ e rfl _ rfl) E λu x i=>qU w rfl (B i) (.tup x ((i.2 _ s).trans e) (q.mono (H i)) s) (O.mono (H i))
 |dict n s D=>
  refine eS G λky hk M=>?_
  refine iK (r.oQ hk) λd Z=>?_
  obtain ⟨F,hd,q,T⟩:=d.GN λp hp=>D _ (M▸ck.mpr (ej p hp rfl))
  have N:F.length=j.length:=by have:=congrArg fj (T.symm.trans M);simpa using this
  have S:a<F.length:=by rw [N];exact (ew.mp C).1
  have kl:j[a]? =some (.int F[a].1):=by rw [<-M,T,ee,dj S];rfl
  rw [kl] at C;obtain rfl:=d5 C
  rw [<-N] at n
  refine wpAny_pyNext_dict_item n hd (k:=F[a].1) (v:=F[a].2) (dj S) λkx u ku x i=>?_
  refine rX kx (int_is ku) λt=>?_
  rw [N] at x
  exact qU _ rfl (B i) (.dict x s D) (.int _ _)
 |pU n s D=>
  rename_i y left U
  have I:0<left:=by
   clear r W Q B H n G;rcases Int.lt_or_le 0 left with h |h
   .exact h
   .have:left=0:=by exact rG (uZ s h)
    clear s h;subst this
    have hn:j.drop a=[]:=D
    have:=(ew.mp C).1
    have K:=congrArg fj hn
    rw [ey] at K;simp at K;exact absurd (nH K) (x8.mpr this)
  have X:l= .int y:=by
   have P:(j.drop a)[0]? =some l:=by rw [pb];simpa using C
   rw [D,ee,ju (by exact S1.mpr I)] at P
   simp at P;exact P.symm
  subst X
  refine wpAny_pyNext_range_item n I λu x i=>qU _ rfl (B i) (.pU x (by exact v5 I) ?_) (.int _ _)
  have h1:j.drop (a+1)=(j.drop a).drop 1:=by rw [ig]
  rw [h1,D]
  obtain ⟨L,V⟩:∃L,left.toNat=L+1:=oK (left.toNat -1) (by exact Of (d:=0) (S1.mpr I))
  have km:(left -1).toNat=L:=by exact tn V
  rw [V,km,ue,eG,List.drop_one,List.tail_cons,et]
  apply fm
  intro Y _
  simp only [ow]
  congr 1
  rw [SY U,SY U]
  push_cast
  rw [Int.add_mul];exact WU
set_option tactic.hygienic true in
theorem wJ.done {A:jc} (q:wJ c m.heap z bC j a) (r:R c b m) (B:bC.ok b) (w:A.handled=none) (u:j[a]? =none):
 WE c A (UY (.ref z)) (λv L=>v=none/\vM z m L) m:=by
 have n:∀{i:vW} {t:Nat},SK z m.heap i->vM z m {m with heap:=i,toks:=t}:=λf=>⟨λs o n e=>f s o n e,rfl,rfl⟩
 cases q with
 |list h s=>
  obtain ⟨P,k,g,q,l,K,G⟩:=r.isList B
  exact wpAny_pyNext_list_end w h K (EH (by rw [G];exact i6.mp u)) λi f=>⟨rfl,n f⟩
 |tup h e q s=>
  exact wpAny_pyNext_tuple_end w h (sY _ e rfl _ rfl) (EH (by rw [<-eB,q.length];exact i6.mp u)) λi f=>⟨rfl,n f⟩
 |dict h s x=>
  obtain ⟨N,M,D⟩:=B
  obtain ⟨d,l⟩:=r.oQ M
  obtain ⟨H,F,q,I⟩:=d.GN λp J=>x _ (D▸ck.mpr (ej p J rfl))
  have E:H.length=j.length:=by have:=congrArg fj (I.symm.trans D);simpa using this
  rw [<-E] at h
  exact wpAny_pyNext_dict_end w h F (i_ (by rw [E];exact i6.mp u)) λi f=>⟨rfl,n f⟩
 |pU h s x=>
  rename_i y left O
  refine wpAny_pyNext_range_end w h ?_ λi f=>⟨rfl,n f⟩
  have C:=congrArg fj x
  rw [ey,bb,ff] at C
  have:=i6.mp u
  exact Oc.mp (C.symm.trans (vA this))
theorem y_ (q:wJ c m.heap z bC j a) (p:gf) (v:eH) (h:bq () m):WE c L (rS p (.ref z) v) bq m:=by
 have l:∀{o:YI} {T:String} {s:Array eH} {d:gY},m.heap.get? z=some o->o.cls= .type T->o.data= .fields s->(["enumerate","zip","dict_itemiterator","dict_reverseitemiterator","odict_iterator","itertools.zip_longest","itertools.pairwise"].contains T)=false->
  WE c L (load z>>= λo=>match o.cls,o.data with
   | .type n,.fields s=>if (["enumerate","zip","dict_itemiterator","dict_reverseitemiterator","odict_iterator","itertools.zip_longest","itertools.pairwise"].contains n&&s[0]? ==some (KZ d))=true then (rule "for.unpacks-the-owned-tuple">>= λ_=>updateField z 0 .none) else pure ()
   |_,_=>pure ()) bq m:=by
  intro o T s d i k f u
  refine b5 (wpAny_load i ?_)
  rw [k,f]
  dsimp only
  rw [u,Bool.false_and,if_neg (by decide)]
  exact dk h
 have t:∀d,WE c L (rS p (.ref z) (.ref d)) bq m:=by
  intro d
  have g:WE c L (rS (.List [] p.pos) (.ref z) (.ref d)) bq m:=by
   induction q using wJ.casesOn with
   |list x b=>refine gj x λo i k f=>?_;exact l i k f (by decide)
   |tup x e r b=>refine gj x λo i k f=>?_;exact l i k f (by decide)
   |dict x b w=>refine gj x λo i k f=>?_;exact l i k f (by decide)
   |pU x b w=>exact l x rfl rfl (by decide)
  clear l q
  induction p using ud with
  |List=>exact g
  |Tuple=>exact g
  |_=>exact dk h
 clear l q
 induction v using p9 with
 |ref d=>exact t d
 |_=>clear t;induction p using ud with |_=>exact dk h
theorem Cv:∀{a:List gf} {l:List Nat},ux v a=some l->l.length=a.length:=by
 intro c
 induction c with
 |nil=>
  intro _ h
  (injection h with h;subst h);rfl
 |cons e r b=>
  intro l h
  obtain ⟨x,p,i,f,_,d,rfl,rfl⟩:=tf h
  exact congrArg rV (b d)
theorem yl:∀{a:List gf} {l:List Nat},ux v a=some l->(z_ a ab).length=a.length/\(z_ a ab).findIdx? (·.1)=none:=by
 intro f
 induction f with
 |nil=>
  intro _ _
  exact ⟨rfl,rfl⟩
 |cons e r b=>
  intro l h
  obtain ⟨x,p,i,j,_,g,rfl,rfl⟩:=tf h
  refine iK (b g) λc d=>?_
  refine ⟨congrArg rV c,?_⟩
  show List.findIdx? (·.1) ((false,x7 (.Name x p) ab)::z_ r ab)=none
  rw [KS,d];rfl
noncomputable def pF (m:MM) (l:List Nat) (xs:List AV):MM:=(l.zip xs).foldl (λm p=>m.set p.1 (some p.2)) m
theorem L_:∀{k:List gf} {l:List Nat} {a:List eH} {d:List AV} {m:MM} {s:eL},ux v k=some l->FR c ab v m b s->R c b s->hX c s.heap a d->d.length=l.length->
 ∀{Q:Unit->eL->Prop},(∀f,FR c ab v (pF m l d) b f->R c b f->zF c ab v b s b f->Q () f)->WE c L (rp ((z_ k ab).map (·.2)) a) Q s:=by
 intro G
 induction G with
 |nil=>
  intro l a d m s g F r q j Q h
  (injection g with g;subst g)
  have:d=[]:=gU.mp j
  clear j;subst this;cases q
  exact dk (h s F r .refl)
 |cons e k w=>
  intro l a d m s g F r q j Q h
  obtain ⟨x,p,i,J,B,z,rfl,rfl⟩:=tf g
  induction d using el with
  |nil=>contradiction
  |cons y K=>
   cases q with
   | @cons H _ a _ E A=>
    show WE c L (do yQ a (x7 (.Name x p) ab H);rp ((z_ k ab).map (·.2)) a) Q s
    refine b5 (f6 (R8 (pO F r B E λf n I o=>?_)))
    exact w z n I (A.Cu r F o) (by simpa using j) λC t D u=>h C t D (o.trans n u)
variable {bP:MM}
theorem wc (d:2<=C.length) (h:jN C l e=some bP):∃c,l= .tup c/\c.length=C.length/\bP=pF e C c:=by
 match C,d with
 |a::b::r,_=>
  induction l using AV.casesOn with
  |tup c=>exact iK (Lu h) λf h=>⟨_,rfl,f,h.symm⟩
  |_=>contradiction
theorem DB (F:FR c ab v e b m) (r:R c b m) (B:L.handled=none) (d:Am v a0=some C) (j:jN C l e=some bP) (x:RV c m.heap J l) (h:∀f,FR c ab v bP b f->R c b f->zF c ab v b m b f->bq () f):WE c L (x7 a0 ab J) bq m:=by
 induction a0 using ud with
 |Name y p=>
  refine eS (fW.mp d) λi G s=>?_;clear B d;subst s
  (injection j with j;subst j)
  exact R8 (pO F r G x h)
 |Tuple V k p=>
  refine eS (jh.mp d) λT t d=>?_
  refine iK (Lu d) λu d=>?_
  .subst d
   refine gj (wc u j) λM s A E=>?_;clear u j d;subst s;subst E
   refine g5 J (iB x) λa D U n W q=>?_
   refine iK (yl (ab:=ab) t) λN S=>?_
   have K:D.size=M.length:=by rw [<-q.length,eB]
   refine QQ B (sY _ n rfl _ rfl) (by rw [N,K,A,Cv t]) S λw I=>?_
   have g:fI m {m with heap:=w}:=qx λQ o n=>I Q o (λz=>by subst z;rw [ik] at n;contradiction) n
   have y:St c b m b {m with heap:=w}:=.grow g
   exact L_ t (F.step r y) (r.grow g) (q.grow g) A λf O H P=>h f O H (y.toF.trans (F.step r y) P)
 |_=>contradiction
theorem BU (g:m.heap.get? z=some (listOf bf a)) (f:0<=p) (d:p.toNat<bf.size) (e:bf.size<=fF) (h:bq () {m with heap:=m.heap.update z (fK (·.setIfInBounds p.toNat J))}):WE c L (GB (.ref z) (.int p bF) J) bq m:=by
 have b:m.TypeIs (.ref z) "list":=ej _ g rfl
 have i:p<2 ^ 63:=by unfold fF at e;exact S_ d e
 unfold GB
 try with_reducible refine f6 ?_
 refine b5 (t8 b (by decide) ?_)
 refine b5 (pR (name:=iV "__setitem__") b t_
  (ng t_ b QV ?_ (Sd _ _ _)))
 show gc _ _ (pT (.int p bF)>>= _) _ _ m
 refine b5 (wpAny_listSubscript_int (fitsIndex_of f i) ?_)
 obtain ⟨j,rfl⟩:=tX f
 have l:j<bf.size:=by simpa using d
 have k:bf[j]? =some bf[j]:=ox l
 show gc _ _ ((seqItemAt z j>>= λr=>pure (r.map (j,·)))>>= _) _ _ m
 refine b5 (b5 (wpAny_seqItemAt g rfl (dk ?_)))
 rw [k]
 show gc _ _ (setSeqItemAt z j J>>= _) _ _ m
 refine b5 (wpAny_setSeqItemAt g rfl ?_)
 first
  |exact b5 (dk (dk (ej .none rfl (dk h))))
  |exact dk ⟨.none,rfl,dk h⟩
theorem AB {q:Array eH} {u:Tok} (g:m.heap.get? z=some (listOf bf a)) (s:m.heap.get? aV=some (listOf q d)) (B:z≠aV) (A:m.heap.IsSliceOf cU (.int p bF) (.int aB u) .none) (f:0<=p) (b:p<=aB) (i:aB.toNat<=bf.size) (j:bf.size+q.size<=fF) (h:bq () {m with heap:=m.heap.update z (fK λo=>o.extract 0 p.toNat++q++o.extract aB.toNat o.size)}):WE c L (GB (.ref z) (.ref cU) (.ref aV)) bq m:=by
 have k:m.TypeIs (.ref z) "list":=ej _ g rfl
 have t:m.TypeIs (.ref aV) "list":=ej _ s rfl
 refine gj (id A) λw e y l=>?_
 have r:m.TypeIs (.ref cU) "slice":=ej w e y
 have n:=hY
 unfold GB
 try with_reducible refine f6 ?_
 refine b5 (t8 k (by decide) ?_)
 refine b5 (pR (name:=iV "__setitem__") k t_
  (ng t_ k QV ?_ (Sd _ _ _)))
 show gc _ _ (pT (.ref cU)>>= _) _ _ m
 refine b5 ?_
 unfold pT
 refine b5 (rR r slice_no_index ?_)
 simp only [H9,if_true]
 refine dk ?_
 show gc _ _ (typeOf (.ref cU)>>= _) _ _ m
 refine b5 (so r ?_)
 rw [if_neg (by decide)]
 rw [listSliceParts_eq]
 refine b5 (b5 (t9 e l (x:=.none) rfl (b5 (GP .none ?_))))
 rw [if_neg (by decide)]
 refine b5 (t9 e l (x:=.int p bF) rfl (b5 (GP (.int p bF) ?_)))
 refine b5 (t9 e l (x:=.int aB u) rfl (b5 (GP (.int aB u) (dk ?_))))
 dsimp only
 have C:yV (.ref z) (.ref aV)=false:=by
  unfold yV
  exact beq_false_of_ne B
 rw [C]
 simp only [fX,if_false]
 refine b5 ?_
 unfold Uq
 refine b5 (so t ?_)
 rw [if_pos (by decide)]
 unfold Uo
 refine b5 (sT s rfl ?_)
 refine dk ?_
 refine b5 (b5 (sT g rfl (dk ?_)))
 refine b5 (Yp (sliceIndices_raw (some p) (some aB) none bf.size (by simp)) ?_)
 have D:ua (some p) (some aB) none bf.size=(p,aB,1):=by
  simp only [ua,KQ,show (1:Int)>0 by decide,if_true,if_neg (show ¬p<0 by exact oB f),if_neg (show ¬aB<0 by exact nr.mpr (jD f b))]
  congr 1
  .exact V6 f b i
  .congr 1;exact V6 (jD f b) (v7 _) i
 rw [D]
 dsimp only
 rw [if_pos (by decide)]
 refine b5 (nF ?_)
 rw [if_neg (by unfold yU;simp only [decide_eq_true_eq];exact iY.mpr (a_ j n))]
 have v:(max p aB).toNat=aB.toNat:=by rw [qj b]
 rw [v]
 refine b5 ?_
 show gc _ _ (updateSeq z _) _ _ m
 refine wpAny_updateSeq g rfl ?_ (by exact a_ (eh _ _) (a_ j n)) ?_
 .refine b5 (Ys ?_)
  first
   |exact dk (ej .none rfl (dk h))
   |exact b5 (dk (dk ⟨.none,rfl,dk h⟩))
 .simp only [Array.size_append,Array.size_extract];exact WW (Lc b) i (a_ j n)
theorem Fe (HB:gV c) (W:mP a L) (r:R c b m) {Q:AS->Prop} (N:RV c m.heap J l) (E:RV c m.heap aT af) (z:RV c m.heap cT b7) (h:ON b b7 Q l af) (M:∀ku s',R c ku s'->St c b m ku s'->Q ku->bq () s'):WE c L (GB J aT cT) bq m:=by
 induction h with
 | @list K v j e h0 h1 C=>
  obtain rfl:=gN N
  refine rX aT (gp E) λkm=>?_
  refine gq (r.isList e) λky aT g q H il hz=>?_
  refine BU g h0 (by exact fC h1 (id (rG hz))) (by exact n1 hz H) ?_
  obtain ⟨G,D⟩:=r.zT (t:=m.toks) (f:=λb7=>b7.setIfInBounds j.toNat cT) e g (ys:=v.set j.toNat b7) (by
   rw [Array.toList_setIfInBounds];exact q.set z _) (by rw [gJ];exact H)
  exact M _ _ G D C
 | @dict K k af e T S C=>
  obtain rfl:=gN N
  refine iK (r.oQ e) λd H=>?_
  have I:ic c b K:=.inl (by rw [e];simp)
  rcases T with ⟨⟨i,rfl⟩,hi⟩ |⟨T,ht⟩
  .refine rX aT (gp E) λkm=>?_
   refine gj (d.GN hi) λA O q u=>?_
   have Y:A.length=k.length:=by have:=congrArg fj u;simpa using this.symm
   have X:=O.dictOf.typeIs (s:=m)
   unfold GB
   try with_reducible refine f6 ?_
   refine b5 (t8 X (by decide) ?_)
   refine b5 (pR (name:=iV "__setitem__") X R_
    (ng R_ X entry_dict_setitem ?_ (args_dict_setitem _ _ _)))
   show gc _ _ (Ut "__setitem__" ⟨[.ref K,.int i km,cT],[]⟩>>= _) _ _ m
   refine b5 (wK X ?_)
   show gc _ _ (K0 K (.int i km) cT>>= _) _ _ m
   refine b5 (wa (knd:=t7 c) (pI _ _ i km) O (λU kn y x=>dk (ej .none rfl (dk ?_))) (λU kn y x=>dk (ej .none rfl (dk ?_))) (a_ (by exact n1 Y (eA S)) hY))
   .have w:=r.nO I x
    have F:AV.int i∈k.map (·.1):=(n0 u).mp (by induction hv:jm A i using d_ with
     |none=>exact absurd hv kn
     |some _=>rfl)
    have n:dictPut k (.int i) b7=k.map λp=>if p.1= .int i then (.int i,b7) else p:=by unfold dictPut;rw [if_pos F]
    have P:RO c U K (.dict (dictPut k (.int i) b7)):=by
     refine .dict (.int (by rw [bb];exact y) ?_ ?_) (by rw [n,bb];exact H)
     .rw [n]
      clear n F kn y O C M S H d e Y hi
      induction k generalizing A with
      |nil=>induction A using el with
       |nil=>exact .nil
       |cons _ _=>clear HB W r z N I E X x w q;contradiction
      |cons p ps Z=>
       induction A using el with
       |nil=>clear HB W r z N I E X x w Z q;contradiction
       |cons iv A=>
        simp only [eG,ix] at u⊢
        cases q with
        |cons q1 q2=>
         have he:(p.1=AV.int i)↔iv.1=i:=by rw [u.1];exact ⟨λh=>by injection h,λh=>by rw [h]⟩
         refine .cons ?_ (Z _ q2 u.2)
         by_cases B:iv.1=i
         .rw [if_pos B,if_pos (he.mpr B)];exact z.mono w
         .rw [if_neg B,if_neg (λl=>B (he.mp l))];exact q1.mono w
     .rw [n,et,et]
      have e1:k.map ((λb7=>b7.1)∘λp=>if p.1= .int i then (.int i,b7) else p)=k.map (·.1):=by
       apply fm;intro p _;simp only [ow];split
       .rename_i hp;exact hp.symm
       .rfl
      have e2:A.map ((λp:Int×eH=>AV.int p.1)∘λkv=>if kv.1=i then (kv.1,cT) else kv)=A.map λp=>.int p.1:=by
       apply fm;intro p _;simp only [ow];split<;>rfl
      rw [e1,e2];exact u
    obtain ⟨G,D⟩:=r.upd (t:=m.toks+1) (o:=.dict (dictPut k (.int i) b7)) e x (.inl (iz rfl (by (repeat intro _);contradiction) (by (repeat intro _);contradiction))) P
    exact M _ _ G D C
   .have w:=r.nO I x
    have F:AV.int i∉k.map (·.1):=λhm=>by
     have:=(n0 u).mpr hm
     rw [kn] at this;contradiction
    have n:dictPut k (.int i) b7=k++[(.int i,b7)]:=by unfold dictPut;rw [if_neg F]
    have P:RO c U K (.dict (dictPut k (.int i) b7)):=by
     refine .dict (.int (by rw [bh];exact y) ?_ ?_) (by rw [n,bh];exact S)
     .rw [n,b_,b_];exact (q.mono w).append (.cons (z.mono w) .nil)
     .rw [n,b_,b_,u];rfl
    obtain ⟨G,D⟩:=r.upd (t:=m.toks+1) (o:=.dict (dictPut k (.int i) b7)) e x (.inl (iz rfl (by (repeat intro _);contradiction) (by (repeat intro _);contradiction))) P
    exact M _ _ G D C
  .refine gj (d.Vs ht) λkl O q u=>?_
   refine j_ T.1 λv kq=>?_;subst kq
   refine mX (iB E) λkz kx k' kq g _ q'=>?_;subst kq
   have Y:kl.length=k.length:=by have:=congrArg fj u;simpa using this.symm
   refine wpAny_setItem_heap (knd:=tupK c) (vf W) ⟨T,E⟩ O (λU y x=>?_) (a_ (by exact n1 Y (eA S)) hY)
   have w:=r.nO I x
   induction V:Sb kl (.tup v) using d_ with
   |none=>
    have F:AV.tup v∉k.map (·.1):=λhm=>by
     have:=(ti u).mpr hm
     rw [V] at this;contradiction
    have n:dictPut k (.tup v) b7=k++[(.tup v,b7)]:=by unfold dictPut;rw [if_neg F]
    rw [storedH_new V] at y
    have P:RO c U K (.dict (dictPut k (.tup v) b7)):=by
     refine .dict (.tup y ?_ ?_ ?_) (by rw [n,bh];exact S)
     .rw [n,b_,b_];exact (q.mono w).append (.cons (z.mono w) .nil)
     .rw [n,b_,b_,u];rfl
     .rw [n];simp
    obtain ⟨G,D⟩:=r.upd (t:=m.toks+(tupK c).draws (.tup v)) (o:=.dict (dictPut k (.tup v) b7)) e x (.inl (iz rfl (by (repeat intro _);contradiction) (by (repeat intro _);contradiction))) P
    exact M _ _ G D C
   |some p=>
    have F:AV.tup v∈k.map (·.1):=(ti u).mp (by rw [V];rfl)
    have n:dictPut k (.tup v) b7=k.map λp=>if p.1= .tup v then (.tup v,b7) else p:=by unfold dictPut;rw [if_pos F]
    rw [storedH_old V] at y
    have P:RO c U K (.dict (dictPut k (.tup v) b7)):=by
     refine .dict (.tup y ?_ ?_ ?_) (by rw [n,bb];exact H)
     .rw [n]
      clear n F y O C M S H d e Y ht V
      induction k generalizing kl with
      |nil=>clear HB W r z N I T E g q' x w q;induction kl using el with
       |nil=>exact .nil
       |cons _ _=>contradiction
      |cons p ps Z=>
       induction kl using el with
       |nil=>clear HB W r z N I T E g q' x w Z q;contradiction
       |cons iv A=>
        simp only [eG,ix] at u⊢
        cases q with
        |cons q1 q2=>
         refine .cons ?_ (Z _ q2 u.2)
         unfold putAt
         by_cases B:iv.1= .tup v
         .rw [if_pos B,if_pos (u.1.trans B)];exact z.mono w
         .rw [if_neg B,if_neg (λl=>B (u.1.symm.trans l))];exact q1.mono w
     .rw [n,et,keys_map_putAt]
      have e1:k.map ((λb7=>b7.1)∘λp=>if p.1= .tup v then (.tup v,b7) else p)=k.map (·.1):=by
       apply fm;intro p _;simp only [ow];split
       .rename_i hp;exact hp.symm
       .rfl
      rw [e1];exact u
     .rw [n]
      intro hn
      rw [jt] at hn
      clear HB W r z M e S N d H I ht O q u C T E g q' Y y x w V n;subst hn;contradiction
    obtain ⟨G,D⟩:=r.upd (t:=m.toks+(tupK c).draws (.tup v)) (o:=.dict (dictPut k (.tup v) b7)) e x (.inl (iz rfl (by (repeat intro _);contradiction) (by (repeat intro _);contradiction))) P
    exact M _ _ G D C
inductive TA (B:Base) (h:vW):Flow->Fl->Prop where
 |next:TA B h .next .next
 |brk:TA B h .brk .brk
 |ret {v:eH} {x:AV}:RV B h v x->TA B h (.ret v) (.ret x)
noncomputable def Cw (B:Base) (env:zv) (ns:gn) (st:AS) (s:eL) (Q:Fl->MM->AS->Prop) (f:Flow) (s':eL):Prop:=
 ∃fl m' st',TA B s'.heap f fl/\FR B env ns m' st' s'/\R B st' s'/\zF B env ns st s st' s'/\Q fl m' st'
noncomputable def Oj (B:Base) (st:AS) (s:eL) (I:gY):Prop:=∀o,s.heap.get? I=some o->ic B st I
noncomputable def SS (B:Base) (n:Nat) (ns:gn) (c:zt) (code:CS):Prop:=∀(A:jc) (env:zv) (m:MM) (st:AS) (s:eL) (Q:Fl->MM->AS->Prop),
 mP n A->FR B env ns m st s->R B st s->VS PG (eE PG n) code m st Q->WE B A (exec c env) (Cw B env ns st s Q) s
noncomputable def O5 (B:Base) (n:Nat) (ns:gn) (cs:List zt) (code:w0):Prop:=∀(A:jc) (env:zv) (m:MM) (st:AS) (s:eL) (Q:Fl->MM->AS->Prop),
 mP n A->FR B env ns m st s->R B st s->jo PG (eE PG n) code m st Q->WE B A (execs cs env) (Cw B env ns st s Q) s
noncomputable def SU (B:Base) (n:Nat) (ns:gn) (e:gf) (c:CE):Prop:=∀(A:jc) (env:zv) (m:MM) (st:AS) (s:eL) (Q:AV->AS->Prop) (P:Unit->eL->Prop) (u:eH->Ox Unit),
 mP n A->FR B env ns m st s->R B st s->VE PG (eE PG n) c m st Q->
 (∀v x st' s',RV B s'.heap v x->R B st' s'->St B st s st' s'->Q x st'->WE B A (u v) (λ_ s''=>(∀b o,s'.heap.get? b=some o->Oj B st s b->¬ic B st' b->s''.heap.get? b=some o)/\
  ∀I s3,vM I s'' s3->Oj B st s I->¬ic B st' I->(∀o,s''.heap.get? I=some o->¬f_ o)->P () s3) s')->
 WE B A (evalThenUse e env u) P s
variable {ag:Fl->MM->AS->Prop}
theorem Cw.trans {f:Flow} (y:zF c ab v b m q ae) (F:FR c ab v e q ae) (p:Cw c ab v q ae ag f aZ):Cw c ab v b m ag f aZ:=
 oV p λg h k a i l d j=>(gC g h k a i l (y.trans F d) j)
theorem O6:O5 c a v [] .nil:=λA e m b s Q d F r h=>Ez (gC .next m b .next F r .refl h)
variable {bQ:List zt} {ah:w0}
theorem Ma {t:zt} {n:CS} (z:SS c a v t n) (w:O5 c a v bQ ah):O5 c a v (t::bQ) (.cons n ah):=λA l m x s Q o F r h=>
 wpAny_execs_cons (er (z A l m x s _ o F r h) (λf y B=>oV B λC i g u b j d k=>by
  induction u with
  |next=>exact er (w A l i g y Q o b j k) (λ_ _ p=>p.trans d b) λ_ _ e=>e
  |brk=>exact gC .brk i g .brk b j d k
  |ret q=>exact (gC (.ret _) i g (.ret q) b j d k)) λ_ _ e=>e)
theorem Rl (l:SE c a v a0 g):SS c a v (.Return (some a0) aa) (.ret g):=λA i m f s Q j F r h=>
 wpAny_Return_some (f5 (l A i m f s _ j F r h) (λp o x d e k b n=>(gC (.ret x) m d (.ret e) (F.step r b) k b.toF n)))
theorem O7:SS c a v (.Return none aa) (.ret (.cst .none)):=λA e m b s Q d F r h=>wpAny_Return_none (gC (.ret .none) m b (.ret .none) F r .refl h)
theorem Rm:SS c a v (.Break aa) .brk:=λA e m b s Q d F r h=>wpAny_Break (gC .brk m b .brk F r .refl h)
variable {bg:w0}
theorem TB {b:List zt} (u:ST c a v a0 g) (o:O5 c a v bQ ah) (t:O5 c a v b bg):SS c a v (.If a0 bQ b aa) (.iff g ah bg):=λA f m q s Q i F r h=>
 wpAny_If (qZ (u A f m q s _ i F r h) (λa0 k j l d n=>by
  induction a0 with
  |true=>exact er (o A f m j k _ i (F.step r d) l n) (λ_ _ p=>p.trans d.toF (F.step r d)) λ_ _ e=>e
  |false=>exact er (t A f m j k _ i (F.step r d) l n) (λ_ _ p=>p.trans d.toF (F.step r d)) λ_ _ e=>e))
theorem TC (q:Ip a0=true) (e:SE c a v a0 g):SS c a v (.Expr a0 aa) (.ex g):=λA j m i s Q d F r h=>
 wpAny_Expr_any (f5 (e A j m i s _ d F r h) (λp o x f n k b l=>(gC .next m f .next (F.step r b) k b.toF l)))
  (by unfold interactive;rw [F.ok.kind];rfl) (by clear e d F r h;rcases a0 with ⟨⟩<;>first |rfl |contradiction)
theorem uF (h:xa a0=true) (a:zv) (x:eH):Sa a0 a x=pure x:=by
 rcases a0 with ⟨⟩<;>first |rfl |contradiction
noncomputable def TF (n:Nat) (it:It) (tg:List Nat) (b:w0) (Q:Fl->MM->AS->Prop) (xs:List AV):MM->AS->Prop:=
 xs.foldr (λx k m st=>it.ok st/\∃m',jN tg x m=some m'/\jo PG (eE PG n) b m' st λfl m st=>(match fl with | .next=>k m st | .brk=>Q .next m st | .ret v=>Q (.ret v) m st))
 (λm st=>it.ok st/\Q .next m st)
theorem Hl (I:Nat->eL->Prop) (l:∀n m,I n m->WE c L (UY J) (λr g=>match r with |none=>bG (.ok .next) g |some v=>WE c L (rS a0 J v) (λ_ e=>WE c L (x7 a0 ab v) (λ_ o=>WE c L (execs bQ ab) (λf i=>match f with | .next | .cont=>∃p,p<n/\I p i | .brk=>bG (.ok .next) i | .ret v=>bG (.ok (.ret v)) i) o) e) g) m) (n:Nat) (h:I n m):sq (hU c.prog c.w) L (.forLoop a0 J bQ [] ab) bG m:=by
 refine codeAny_loop' rfl I (λn m k=>?_) n h
 show gc _ _ ((forTurn a0 J bQ [] ab).onRaise (λx=>do Sz x ab;Uk x)) _ _ m
 refine Yr ?_
 simp only [forTurn]
 refine b5 (mM (b5 (wpAny_onRaise (er (l n m k) (λr g j=>?_) λ_ _ a=>a.elim))))
 clear l h k;induction r using d_ with
 |none=>exact dk (.inr ⟨rfl,codeAny_block (Ez j)⟩)
 |some v=>
  refine b5 (er j (λ_ e b=>?_) λ_ _ a=>a.elim)
  refine b5 (er b (λ_ e b=>b5 (er b (λf o d=>?_) λ_ _ a=>a.elim)) λ_ _ a=>a.elim)
  clear j b;clear b;induction f using Flow.casesOn with
  |next=>exact dk (.inl ⟨rfl,d⟩)
  |cont=>exact dk (.inl ⟨rfl,d⟩)
  |brk=>exact dk d
  |ret v=>exact dk d
variable {dq:List h}
theorem drop_cons (b:dq[a]? =some dp):dq.drop a=dp::dq.drop (a+1):=by
 obtain ⟨c,rfl⟩:=ew.mp b
 exact fQ c
theorem zF.Rn (y:zF c ab v b m q ae) (d:vM z ae aZ) (h:∀o,m.heap.get? z=some o->¬ic c b z->False):zF c ab v b m q aZ:=
 ⟨λa o e f w=>d.keep a o (λg=>by clear y d w;subst g;exact h o e f) (y.keep a o e f w),y.foot⟩
theorem FR.Ff (F:FR c ab v e b m) (h:m.heap.get? z=none):ab.locals≠z/\(∀x a,ab.cells.lookup x=some a->a≠z)/\¬Own v ab z:=by
 have i:ab.locals≠z:=λq=>by
  refine wY F.BQ λf o _ _ l _=>?_
  rw [q,h] at l;contradiction
 have g:∀x a,ab.cells.lookup x=some a->a≠z:=λx a d q=>by
  refine oJ (F.Du x a d) λ_ _ n o j _=>?_
  rw [q,h] at j;contradiction
 exact iz i g (λw=>w.elim (λq=>i q.symm) λk=>eS k λx _ d=>g x z d rfl)
theorem Oj.Ff (F:FR c ab v e b m) (h:Oj c b m z):ab.locals≠z/\(∀x a,ab.cells.lookup x=some a->a≠z)/\¬Own v ab z:=by
 have i:ab.locals≠z:=λq=>by
  refine wY F.BQ λf o _ _ l _=>?_
  exact F.E0.1 (by rw [q];exact h o (q▸l))
 have g:∀x a,ab.cells.lookup x=some a->a≠z:=λx a d q=>by
  refine oJ (F.Du x a d) λn _ p o j _=>?_
  exact n (by rw [q];exact h o (q▸j))
 exact iz i g (λw=>w.elim (λq=>i q.symm) λk=>eS k λx _ d=>g x z d rfl)
theorem Oj.h0 (r:R c b m) (h:Oj c b m z):c.h₀.get? z=none:=by
 induction e:c.h₀.get? z with
 |none=>rfl
 |some o=>rw [r.new z (h o (r.old z o e))] at e;contradiction
theorem Oj.of (y:St c b m q ae) (h:ae.heap.get? z=none):Oj c b m z:=λo e=>gh λa=>by rw [y.keep _ _ e a] at h;contradiction
theorem Ro (HB:gV c) (ht:Am v a0=some C) (hc:xa aH=true) (hi:SE c a v aH g) (hb:O5 c a v bQ ah):
 SS c a v (.For a0 aH bQ [] aa) (.kg C g ah):=λku t m st s Q G F r h=>by
 refine wpAny_For (f5 (hi ku t m st s _ G F r h) (λlr lq x kI qv u M kU=>?_)) (uF hc t)
 refine er (wb HB u qv kU) (λiv lj b=>?_) λ_ _ e=>e.elim
 refine oV b λI N d e O y kH kN=>?_
 subst e
 have kC:=F.step r M
 refine mW (kC.Ff y) λU V kG=>?_
 have kD:¬ic c kI I:=λf=>by refine eS (u.oD f) λo e _=>?_;rw [y] at e;contradiction
 have kx:c.h₀.get? I=none:=by
  induction e:c.h₀.get? I using d_ with
  |none=>rfl
  |some o=>rw [u.old I o e] at y;contradiction
 have kl:∀o,s.heap.get? I=some o->¬ic c st I->False:=λo e f=>by rw [M.keep I o e f] at y;contradiction
 refine Hl (c:=c) (L:=ku) (ab:=t) (λk n=>∃aH P j,k=d.length -aH/\FR c t v P j n/\R c j n/\zF c t v st s j n/\wJ c n.heap I N d aH/\¬ic c j I/\TF a N C ah Q (d.drop aH) P j)
  ?_ d.length ⟨0,m,kI,rfl,(kC.step u (.grow O)),(u.grow O),(M.trans (.grow O)).toF,kH,kD,kN⟩
 intro k n kO;refine EL k kO λaH P j X J Y L E z=>?_
 have D:∀o,n.heap.get? I=some o->¬f_ o:=λo e=>by refine eS L.nf λo' e' nf=>?_;rw [e] at e';obtain rfl:=d5 e';exact nf
 induction H:d[aH]? using d_ with
 |none=>
  rw [pE (by simpa using H)] at z
  refine iK z λK p=>?_
  refine er (L.done J K G.handled H) (λkZ kV b=>?_) λ_ _ e=>e
  refine iK b λe i=>?_
  subst e
  exact gC .next P j .next (X.but i U V D) (J.but i E kx D) (Y.Rn i kl) p
 |some x=>
  rw [drop_cons H] at z
  refine iK z λK p=>?_
  refine er (L.next J K H) (λkZ kV b=>?_) λ_ _ e=>e
  refine rZ b λw e i kM qw=>?_
  subst e
  have kn:=X.but i U V D
  have kQ:=J.but i E kx D
  have kJ:=Y.Rn i kl
  refine y_ kM a0 w ?_
  refine eS p λkW kT p=>?_
  refine DB kn kQ G.handled ht kT qw λkK W kP kq=>?_
  refine er (hb ku t kW j kK _ G W kP p) (λf kX b=>?_) λ_ _ e=>e
  refine oV b λfl Z kz lh T km S ky=>?_
  have kB:=(kJ.trans kn kq).trans W S
  clear HB ht hc hi hb G F r h qv u M kU O y kH kN kC U V kD kx kl kO X J Y L D z K i qw kJ kT p b;induction lh using TA.casesOn with
  |next=>
   have kF:wJ c kK.heap I N d (aH+1):=kM.mono (kq.frozen kQ kn) λo e=>kq.keep I o e E kG
   have lg:wJ c kX.heap I N d (aH+1):=kF.mono (S.frozen kP W) λo e=>S.keep I o e E kG
   have kY:=(ew.mp H).1
   refine ⟨(d.length - (aH+1)),(by exact i3 kY (fH _)),(aH+1),Z,kz,rfl,T,km,kB,lg,(λf=>(S.foot I f).elim E λl=>?_),ky⟩
   refine eS kF.nf λo e _=>?_
   rw [l] at e;contradiction
  |brk=>exact gC .next Z kz .next T km kB ky
  |ret q=>exact gC (.ret _) Z kz (.ret q) T km kB ky
theorem DC (I:Nat->eL->Prop) (k:∀n m,I n m->WE c L (GR a0 ab (vU a0 ab)) (λb d=>if b then WE c L (execs bQ ab) (λf g=>match f with | .next | .cont=>∃i,i<n/\I i g | .brk=>bG (.ok .next) g | .ret v=>bG (.ok (.ret v)) g) d else bG (.ok .next) d) m) (n:Nat) (h:I n m):sq (hU c.prog c.w) L (.whileLoop a0 bQ [] ab) bG m:=by
 refine codeAny_whileLoop I (λn m j=>er (k n m j) (λb d a=>?_) λ_ _ e=>e.elim) n h
 induction b with
 |false=>simp only [fX,if_false] at a⊢;exact Ez a
 |true=>simp only [if_true] at a⊢;exact er a (λ_ _ q=>q) λ_ _ e=>e.elim
theorem Mb (T:ST c a v a0 g) (P:O5 c a v bQ ah):SS c a v (.While a0 bQ [] aa) (.ET g ah):=λz l m b s Q C F r h=>by
 refine j_ h λk h=>?_
 refine wpAny_While ?_
 refine DC (c:=c) (L:=z) (ab:=l) (λk j=>∃i d,FR c l v i d j/\R c d j/\zF c l v b s d j/\
  N3 (motive:=λ_=>MM->AS->Prop) (λ_ _=>False)
   (λ_ k m b=>VT PG (eE PG a) g (VE PG (eE PG a) g) m b λa0 b=>if a0 then jo PG (eE PG a) ah m b λL m b=>(match L with | .next=>k m b | .brk=>Q .next m b | .ret W=>Q (.ret W) m b) else Q .next m b) k i d)
  ?_ k (pg m b F r .refl h)
 intro k j K;refine nW K λi d n G S t=>?_
 clear F r h K;induction k using ji with
 |zero=>exact t.elim
 |succ k=>
  refine qZ (T z l i d j _ C n G t) (λa0 U M D x I=>?_)
  have o:=n.step G x
  have p:=S.trans n x.toF
  induction a0 with
  |false=>exact gC .next i M .next o D p I
  |true=>
   refine er (P z l i M U _ C o D I) (λf X O=>?_) λ_ _ e=>e
   refine oV O λL y E V u H N w=>?_
   have J:=p.trans o N
   clear T P C n G S t D x o p I O N;induction V with
   |next=>exact ⟨k,(fH _),y,E,u,H,J,w⟩
   |brk=>exact gC .next y E .next u H J w
   |ret q=>exact gC (.ret _) y E (.ret q) u H J w
noncomputable def DD (e:gf):Bool:=e.ctorIdx==8
noncomputable def notName (e:gf):Bool:=!(e.ctorIdx==23)
theorem pY (b:xa a0=true) (c:notName aH=true) (a:Nat):vx a0 (some aH) a ab=pure false:=by
 rcases a0 with ⟨⟩<;>first |rfl |contradiction |(cases aH<;>first |rfl |contradiction)
theorem Hm (f:xa a0=true) (x:j7) (p:EB) (b:Nat):vx a0 (some (.Name x p)) b ab=pure false\/(DD a0=true/\vx a0 (some (.Name x p)) b ab=pure true):=by
 induction a0 using ud with
 |ListComp g e d c=>
  induction a:(ab.blockKind==.function&&ab.kindOf x==some .local&&p.line==c.line&&!(d.names.any λ(n,k)=>n==x&&(k==.local||k==.cell))) using j5 with
  |false=>exact .inl (by unfold vx;exact congrArg pure a)
  |true=>exact .inr ⟨rfl,by unfold vx;exact congrArg pure a⟩
 |SetComp=>contradiction
 |DictComp=>contradiction
 |_=>exact .inl rfl
theorem Rp (G:om v ao=some d) (S:xa a0=true) (U:SE c a v a0 g) (J:DD a0=true->SU c a v a0 g):SS c a v (.Assign [.Name ao aa] a0 b9) (.asg d g):=λA j m i s Q H F r h=>by
 rcases Hm (ab:=j) S ao aa b9.line with l |⟨L,l⟩
 .refine wpAny_Assign_Name (f5 (U A j m i s _ H F r h) (λw R y n p z f C=>?_)) l
  have e:=F.step r f
  exact pO e z G p λO D B k=>gC .next _ n .next D B (f.toF.trans e k) C
 .rw [exec_Assign_Name_used _ _ _ _ l]
  refine b5 (mM (b5 ?_))
  refine er (J L A j m i s (λw i=>Q .next (m.set d (some w)) i) (λ_ P=>Cw c j v i s Q .next P) (x7 (.Name ao aa) j) H F r h ?_) (λ_ _ q=>dk q) λ_ _ a0=>a0
  intro w y n R p z f C
  have e:=F.step r f
  refine UC (pO e z G p λO D B k=>⟨λb o a0 T u=>k.keep b o a0 u (T.Ff F).2.2,λI V x t K E=>?_⟩)
  refine mW (t.Ff F) λM N _=>?_
  exact gC .next _ n .next (D.but x M N E) (B.but x K (t.h0 r) E) ((f.toF.trans e k).Rn x (λo a0 u=>u (t o a0))) C
theorem JT:∀{l:List Nat} {a:List AV} {i:Nat} {x:AV},i∉l->pF (e.set i (some x)) l a=(pF e l a).set i (some x):=by
 intro l
 induction l generalizing e with
 |nil=>intro a i x _;rfl
 |cons j l d=>
  intro a i x b
  induction a using el with
  |nil=>rfl
  |cons y c=>
   have f:i≠j:=λg=>b (g▸.head _)
   show pF ((e.set i (some x)).set j (some y)) l c=(pF (e.set j (some y)) l c).set i (some x)
   rw [List.set_comm _ _ f,d λh=>b (.tail _ h)]
theorem DE:∀{l b:List Nat} {a c:List AV},l.length=a.length->pF e (l++b) (a++c)=pF (pF e l a) b c:=by
 intro l
 induction l generalizing e with
 |nil=>intro b a c h;induction a using el with
  |nil=>rfl
  |cons _ _=>contradiction
 |cons j l d=>intro b a c h;induction a using el with
  |nil=>contradiction
  |cons x a=>exact d (by simpa using h)
theorem JU:∀{l:List Nat} {a:List AV},l.length=a.length->l.Nodup->pF e l.reverse a.reverse=pF e l a:=by
 intro l
 induction l generalizing e with
 |nil=>intro a h _;induction a using el with
  |nil=>rfl
  |cons _ _=>contradiction
 |cons j l d=>
  intro a h b
  induction a using el with
  |nil=>contradiction
  |cons x a=>
   rw [eT] at b
   have c:l.length=a.length:=by simpa using h
   rw [nJ,nJ,DE (by simp [c]),d c b.2]
   show (pF e l a).set j (some x)=pF (e.set j (some x)) l a
   rw [JT b.1]
theorem JV:∀{g:List j7} {l:List Nat} {d:List eH} {a:List AV} {m:MM} {s:eL},g.map (om v)=l.map some->FR c ab v m b s->R c b s->hX c s.heap d a->a.length=l.length->
 ∀{Q:Unit->eL->Prop},(∀f,FR c ab v (pF m l a) b f->R c b f->zF c ab v b s b f->Q () f)->WE c L (rp (g.map λx=>U1 ab x) d) Q s:=by
 intro u
 induction u with
 |nil=>
  intro l d a m s e F r q j Q h
  have:l=[]:=by simpa using e.symm
  clear e;subst this
  have:a=[]:=gU.mp j
  clear j;subst this;cases q
  exact dk (h s F r .refl)
 |cons x g A=>
  intro l d a m s e F r q j Q h
  induction l using el with
  |nil=>simp at e
  |cons i l=>
   simp only [eG,ix] at e
   induction a using el with
   |nil=>contradiction
   |cons y a=>
    cases q with
    | @cons w _ d _ p B=>
     show WE c L (do yQ d (U1 ab x w);rp (g.map λx=>U1 ab x) d) Q s
     refine b5 (f6 (bindName_ (pO F r e.1 p λf k C n=>?_)))
     exact A e.2 k C (B.Cu r F n) (by simpa using j) λD t o z=>h D t o (n.trans k z)
theorem hX.reverse (r:hX c H aj j):hX c H aj.reverse j.reverse:=r.rev
theorem BV {f:h->Option t}:∀{l:List h},(l.filterMap f).length<=l.length/\((l.filterMap f).length=l.length->l.map f=(l.filterMap f).map some):=by
 intro j
 induction j with
 |nil=>
  exact ⟨eJ _,λ_=>rfl⟩
 |cons a l g=>
  refine iK g λd i=>?_
  induction e:f a with
  |none=>
   rw [qS,e]
   refine ⟨fZ d,λc=>?_⟩
   have:(l.filterMap f).length=l.length+1:=c
   exact absurd d (x8.mpr (EO (fH _) this))
  |some b=>
   rw [qS,e]
   refine ⟨fh d,λc=>?_⟩
   have c:(l.filterMap f).length=l.length:=by simpa using c
   rw [eG,eG,e,i c]
theorem Mc {f:gf->Option j7} (c:∀t z,f t=some z->EU t=some z) (d:(az.filterMap f).length=az.length):az.map EU=(az.filterMap f).map some:=by
 have:=(BV (l:=az)).2 d
 rw [<-this]
 apply fm
 intro t e
 have a:f t∈az.map f:=ck.mpr (ej t e rfl)
 rw [this] at a
 refine eS (ck.mp a) λz _ b=>?_
 rw [<-b]
 exact c t z b.symm
theorem vN (h:EV (.Tuple az a aa) a0=true):
 ro [.Tuple az a aa] a0 ab=pure none\/∃b,ro [.Tuple az a aa] a0 ab=pure (some b)/\b.length=az.length/\az.map EU=b.map some:=by
 have n:∀c j k,a0= .Tuple c j k->ro [.Tuple az a aa] a0 ab=pure none\/∃b,ro [.Tuple az a aa] a0 ab=pure (some b)/\b.length=az.length/\az.map EU=b.map some:=by
  intro c j k s;subst s
  have g:(c.any λa0=>!GU 8 a0)=true:=h
  have f:c.all (GU 8)=false:=by
   rw [EF,jM,qc]
   refine eS (qc.mp g) λx o p=>?_
   exact ej x o p
  unfold ro
  dsimp only
  split
  .exact .inl rfl
  .split
   .exact .inl rfl
   .rename_i q l
    generalize i:vI _ az=b
    split
    .exact .inl rfl
    .split
     .exact .inl rfl
     .rename_i e m
      rw [f]
      have d:b.length=az.length:=by
       simp only [j1,bne_iff_ne,ne_eq,not_or,WG] at e
       exact e.1
      refine .inr (gr b rfl d ?_)
      rw [<-i] at d⊢
      refine Mc (λt z r=>?_) d
      clear i d q l e m g f
      rcases t with ⟨⟩<;>first |contradiction |skip
      exact (Lu r).2▸rfl
 clear h;rcases a0 with ⟨⟩<;>first |exact n _ _ _ rfl |exact .inl rfl
theorem Fg:∀{c:List gf} {l:List Nat} {a:List j7},ux v c=some l->c.map EU=a.map some->a.map (om v)=l.map some:=by
 intro g
 induction g with
 |nil=>
  intro l a h b
  (injection h with h;subst h)
  have:a=[]:=by simpa using b.symm
  clear b;subst this;rfl
 |cons e r j=>
  intro l a h b
  obtain ⟨x,p,i,n,m,f,rfl,rfl⟩:=tf h
  induction a using el with
  |nil=>simp at b
  |cons y o=>
   injection b with k d
   exact congr (congrArg Oa (d5 k▸m)) (j f d)
theorem Fh (a:SK m.heap.objs.size m.heap H):fI m {m with heap:=H}:=qx λb o e=>a b o (λz=>by subst z;rw [ik] at e;contradiction) e
theorem O8 (D:ux v az=some C) (E:2<=C.length) (Z:C.Nodup) (L:EV (.Tuple az d aa) a0=true) (M:xa a0=true) (O:SE c a v a0 g):
 SS c a v (.Assign [.Tuple az d aa] a0 b9) (.s_ C g):=λA n m st s Q B F r h=>by
 have I:VQ [.Tuple az d aa] a0 b9.line n=pure false:=show vx a0 (some (.Tuple az d aa)) b9.line n=pure false from pY M rfl _
 have kq:=Cv D
 have J:=O A n m st s _ B F r h
 rcases vN (ab:=n) L with f |⟨kx,f,hl,W⟩
 .refine Wy (er J (λR kn x=>?_) λ_ _ a0=>a0) I f
  obtain ⟨y,w,G,o,e,b⟩:=x
  obtain ⟨z,N,rfl,j,b⟩:=b
  .·refine DB (F.step r e) o B.handled (a0:=.Tuple az d aa) (C:=C) ?_ j G λkl k ky X=>gC .next N w .next k ky (e.toF.trans (F.step r e) X) b.2
    show (ux v az).bind _=_;rw [D];exact if_pos E
 .refine Assign_Tuple_swapped (er J (λR kn x=>?_) λ_ _ a0=>a0) I f
  obtain ⟨y,w,G,o,e,b⟩:=x
  refine jS b λz N p j b=>?_;subst p
  .·refine gj (wc E j) λkB u H p=>?_;subst p
    clear E L M O h I J j;(injection u with u;subst u)
    refine g5 R (iB G) λkz K k' U kC q=>?_
    have V:K.size=z.length:=by rw [<-q.length,eB]
    have S:kx.length=K.size:=by rw [hl,V,H,kq]
    rw [S]
    refine unpackItems_tuple B.handled (sY _ U rfl _ rfl) λh' f=>?_
    have i:=Fh f
    have ku:=F.step r e
    have k:=ku.step o (.grow i)
    have T:=Fg D W
    refine JV (l:=C.reverse) (a:=z.reverse) (by rw [p_,p_,T]) k (o.grow i) (q.grow i).reverse (by simpa using H) λkl P km Y=>?_
    rw [JU (by simpa using H.symm) Z] at P
    exact gC .next _ w .next P km ((e.trans (.grow i)).toF.trans k Y) b.2
theorem O9 (B:gV c) (E:AT[d]? =some ao) (C:xa aH=true) (H:SE c a v aH D) (n:SE c a v a0 g):
 SS c a v (.Assign [.Attribute a0 ao aa] aH b9) (.iA g d D):=λA i m u s Q j F r h=>
 plainObj_wpAny_Assign_Attribute (f5 (H A i m u s _ j F r h) (λM w y p q k e J=>f5 (n A i m p w _ j (F.step r e) k J) (λO L z N o I f b=>by
  induction b with
  |mk G b=>
   obtain rfl:=gN o
   refine uC B I G E (q.step k f) λK t x=>?_
   have l:=(e.trans f).trans x
   exact (gC .next m _ .next (F.step r l) t l.toF b)))) (pY C rfl _)
theorem za (h:WE c L (vU a0 ab) (λb a=>WE c L (setAttr b ao J) bq a) m):WE c L (x7 (.Attribute a0 ao aa) ab J) bq m:=by
 rw [assign_Attribute]
 refine b5 (f6 (er h (λb a f=>b5 (mM (b5 (f6 (er f (λ_ g d=>wpAny_release d) λ_ _ e=>e))))) λ_ _ e=>e))
theorem Md (u:gV c) (R:AT[d]? =some ao) (H:AT[o]? =some cB) (C:EV (.Tuple [.Attribute a0 ao aa,.Attribute aH cB b9] I cG) aW=true) (G:xa aW=true) (K:SE c a v aW aL) (L:SE c a v a0 g) (B:SE c a v aH D):
 SS c a v (.Assign [.Tuple [.Attribute a0 ao aa,.Attribute aH cB b9] I cG] aW cV) (.ES g d D o aL):=λA b m st s Q f F r h=>by
 have S:VQ [.Tuple [.Attribute a0 ao aa,.Attribute aH cB b9] I cG] aW cV.line b=pure false:=show vx aW (some (.Tuple [.Attribute a0 ao aa,.Attribute aH cB b9] I cG)) cV.line b=pure false from pY G rfl _
 have e:ro [.Tuple [.Attribute a0 ao aa,.Attribute aH cB b9] I cG] aW b=pure none:=by
  rcases vN (ab:=b) C with e |⟨kC,e,hl,kn⟩
  .exact e
  .clear u R H C G K L B f F r h S e;induction kC using el with
   |nil=>contradiction
   |cons y ys=>(injection kn;contradiction)
 refine Wy (f5 (K A b m st s _ f F r h) (λkx kH y km qv ky kl x=>?_)) S e
 obtain ⟨v1,v2,rfl,x⟩:=x
 .refine g5 kx (iB qv) λt U k' W kJ q=>?_
  have Y:U.size=2:=by rw [<-eB,q.length];rfl
  refine QQ f.handled (sY _ W rfl _ rfl) (by rw [Y];rfl) rfl λh' e=>?_
  have i:=Fh e
  have w:=ky.grow i
  have Z:=q.grow i
  refine jS Z.two λw1 p X q1 q2=>?_
  rw [X]
  have M:=kl.trans (Ex i)
  have kB:=F.step r M
  show WE c A (do yQ [p] (x7 (.Attribute a0 ao aa) b w1);rp [x7 (.Attribute aH cB b9) b] [p]) _ _
  refine b5 (f6 (za (f5 (L A b m km _ _ f kB w x) (λov kG z kI k T l n=>?_))))
  induction n using w_.casesOn with
  |mk e1 n=>
   obtain rfl:=gN k
   refine uC u T e1 R (q1.step w l) λV P E=>?_
   show WE c A (do yQ [] (x7 (.Attribute aH cB b9) b p);rp [] []) _ _
   have O:=(M.trans l).trans E
   refine b5 (f6 (za (f5 (B A b m _ V _ f (F.step r O) P n) (λov kD z kK k ku N j=>?_))))
   induction j using w_.casesOn with
   |mk e2 j=>
    obtain rfl:=gN k
    refine uC u ku e2 H (((q2.step w l).step T E).step P N) λkF kq kz=>?_
    have J:=(O.trans N).trans kz
    exact dk (gC .next m _ .next (F.step r J) kq J.toF j)
theorem O' (M:gV c) (N:xa aW=true) (P:SE c a v aW aL) (p:SE c a v a0 g) (q:SE c a v aH D):
 SS c a v (.Assign [.Subscript a0 aH aa] aW b9) (.tZ g D aL):=λA j m f s w b F r h=>
 KY (f5 (P A j m f s _ b F r h) (λW K y H I l d R=>f5 (p A j m H K _ b (F.step r d) l R) (λY E z O t k e C=>
  f5 (q A j m O E _ b (F.step r (d.trans e)) k C) (λX S u T L J i B=>by
   refine Fe M b J (Q:=λf=>w .next m f) (t.step k i) L ((I.step l e).step k i) B λU V G x o=>?_
   have n:=((d.trans e).trans i).trans x
   exact (gC .next m _ .next (F.step r n) G n.toF o))))) (pY N rfl _)
variable {cX:CE}
theorem O_ {e:gf} (R:xa e=true) (V:SE c a v e cX) (Z:SE c a v a0 g) (hl:SE c a v aH D) (W:SE c a v aW aL):
 SS c a v (.Assign [.Subscript a0 (.Slice (some aH) (some aW) none b9) aa] e cG) (.Lv g D aL cX):=λA u m st s Q j F r h=>
 KY (f5 (V A u m st s _ j F r h) (λkN kI y kD qv kq i ky=>f5 (Z A u m kD kI _ j (F.step r i) kq ky) (λov kH z kK O kx o kl=>
  Ou (f5 (hl A u m kK kH _ j (F.step r (i.trans o)) kx kl) (λlv kB x3 kF ql K C km=>f5 (W A u m kF kB _ j (F.step r ((i.trans o).trans C)) K km) (λuv S x4 kO X kn J kz=>by
   rw [Jq]
   refine dk ?_
   have w:=jw S {cls:=.type "slice",data:=.fields #[lv,uv,.none]}
   have q:=kn.grow w
   have ku:=(((i.trans o).trans C).trans J).trans (Ex w)
   clear V Z hl W j h kq i ky kx o kl C km kn w;induction kz using Q9.casesOn with
   | @mk ra rb p l b kJ G N T Y x H E h6=>
    obtain rfl:=gN O
    obtain rfl:=gN qv
    obtain ⟨kM,rfl⟩:=gp (ql.step K J)
    obtain ⟨t',rfl⟩:=gp X
    refine gq (q.isList G) λd k B I l1 _ M=>?_
    refine gq (q.isList N) λn k' g2 q2 l2 _ P=>?_
    refine AB B g2 T (tG ..) Y x (by exact Vb H M) (by exact ad E M P) ?_
    have e0:(d.extract 0 p.toNat++n++d.extract l.toNat d.size).toList=d.toList.take p.toNat++n.toList++d.toList.drop l.toNat:=by
     clear R F r K J G N T Y x H E h6 O qv ql X q ku B I l1 M g2 q2 l2 P;obtain ⟨L⟩:=d
     obtain ⟨L'⟩:=n
     simp [List.extract,m_]
    obtain ⟨kG,kC⟩:=q.zT (t:=(S.toks)) (f:=λb=>b.extract 0 p.toNat++n++b.extract l.toNat b.size) G B (ys:=b.take p.toNat++kJ++b.drop l.toNat) (by
     rw [e0];exact ((I.take _).append q2).append (I.drop _)) (by simp only [bh,fS,ey];exact V8 (Lc x) H E)
    have U:=ku.trans kC
    exact (gC .next m _ .next (F.step r U) kG U.toF h6))))))) (pY R rfl _)
theorem jT (a:(v.map (·.1)).Nodup) {k:vz}:h_ v ao=some k↔(ao,k)∈v:=by
 induction v with
 |nil=>exact ⟨(by intros;contradiction),(by intros;contradiction)⟩
 |cons p r b=>
  obtain ⟨y,j⟩:=p
  rw [eG,eT] at a
  rw [te]
  by_cases h:ao=y
  .subst h
   rw [if_pos rfl]
   simp only [jK,eK,BI,true_and]
   exact ⟨λe=>.inl e.symm,λe=>e.elim rG λc=>absurd (ck.mpr (ej _ c rfl)) a.1⟩
  .rw [if_neg h,b a.2]
   simp [h]
theorem BW:td=("__classdict__":j7):=by unfold td;decide+kernel
variable {aJ:En}
theorem q6 (h:Ao aJ=true):aJ.kind= .function/\aJ.isGenerator=false/\aJ.isCoroutine=false/\(aJ.names.map (·.1)).Nodup/\aJ.names.lookup ("__classdict__":j7)=none:=by
 unfold Ao at h
 simp only [eV,decide_eq_true_eq,fL] at h
 refine iK h λa d=>?_;refine iK a λa b=>?_;refine iK a λa g=>?_;refine iK a λc i=>?_
 refine ⟨c,i,g,b,?_⟩
 rw [<-sy]
 induction e:h_ aJ.names ("__classdict__":j7) with
 |none=>rfl
 |some k=>
  have f:=(jT b).mp e
  have:td∈aJ.names.map (·.1):=(ck.mpr (ej _ f BW.symm))
  exact absurd this (of_decide_eq_false d)
theorem DF (h:Dp aJ=true):Ao aJ=true/\BN aJ.names=false:=by
 unfold Dp at h
 rw [eV,fL] at h;exact h
theorem uG:∀{b:gn},qY v b=true->∀x,(x,fD)∈b->h_ v x=some .cell\/h_ v x=some .free:=by
 intro b h x a
 induction b with
 |nil=>exact (eg a).elim
 |cons p r c=>
  obtain ⟨y,k⟩:=p
  change (_&&qY v r)=true at h
  rw [eV] at h
  rcases eK.mp a with e |a
  .clear a;cases (e)
   have h:(match h_ v x with |some .cell=>true |some .free=>true |_=>false)=true:=h.1
   induction q:h_ v x with
   |none=>rw [q] at h;contradiction
   |some k=>rw [q] at h;induction k using H8 with
    |cell=>exact .inl rfl
    |free=>exact .inr rfl
    |_=>contradiction
  .exact c h.2 a
noncomputable def qB (cells:List (j7×gY)):gn->List (j7×gY)->List (j7×gY)
 |[],acc=>acc
 |(x,k)::r,acc=>if k= .free then qB cells r ((x,(cells.lookup x).getD 0)::acc) else qB cells r acc
variable {cj:List (j7×gY)}
theorem tl:∀{g:gn} {c:List (j7×gY)} {b:j7},((b,fD)∈g->(qB cj g c).lookup b=some ((cj.lookup b).getD 0))/\((b,fD)∉g->(qB cj g c).lookup b=c.lookup b):=by
 intro n
 induction n with
 |nil=>
  intro c b
  exact ⟨λh=>(nomatch h),λ_=>rfl⟩
 |cons o r i=>
  intro c b
  obtain ⟨y,k⟩:=o
  by_cases l:k= .free
  .subst l
   rw [qB,if_pos rfl]
   refine iK (i (c:=(y,(cj.lookup y).getD 0)::c) (b:=b)) λf d=>?_
   refine ⟨λa=>?_,λa=>?_⟩
   .by_cases j:(b,fD)∈r
    .exact f j
    .rw [d j]
     rcases eK.mp a with e |a
     .clear i f d a j;(injection e with e;subst e);simp
     .exact absurd a j
   .have m:b≠y:=λe=>a (by rw [e];exact .head _)
    rw [d λq=>a (.tail _ q),eM,beq_false_of_ne m]
  .rw [qB,if_neg l]
   refine iK (i (c:=c) (b:=b)) λf d=>?_
   refine ⟨λa=>f ?_,λa=>d λq=>a (.tail _ q)⟩
   rcases eK.mp a with e |a
   .clear i f d a;cases (e);exact absurd rfl l
   .exact a
theorem Me:∀{d:gn} {a:List (j7×gY)},(∀x,(x,fD)∈d->∃c,ab.cells.lookup x=some c)->
 (forIn d a λ(p:j7×vz) (cs:List (j7×gY))=>if (p.2==fD)=true then (do let c <-YG ab p.1;pure (iN ((p.1,c)::cs))) else pure (iN cs):Ox (List (j7×gY)))=pure (qB ab.cells d a):=by
 intro j
 induction j with
 |nil=>
  intro a _
  exact rfl
 |cons l r i=>
  intro a h
  obtain ⟨x,k⟩:=l
  rw [qK]
  by_cases f:k= .free
  .subst f
   obtain ⟨c,g⟩:=h x (.head _)
   have e:YG ab x=pure c:=by unfold YG;rw [g]
   simp only [beq_self_eq_true,if_true,e,pure_bind]
   rw [i λy b=>h y (.tail _ b),qB,if_pos rfl,g];rfl
  .have:(k==fD)=false:=by simpa using f
   simp only [this,fX,if_false,pure_bind]
   rw [i λy b=>h y (.tail _ b),qB,if_neg f]
theorem vO (h:∀x,(x,fD)∈aJ.names->∃c,ab.cells.lookup x=some c):GV aJ ab=pure (qB ab.cells aJ.names []):=by
 have e:=Me (a:=[]) h
 unfold GV
 simp only [bind_pure]
 first
  |exact e
  |(rw [<-e];congr 1)
structure Made (ms:gn) (cl:List (j7×gY)) (s:eL) (L:gY) (cells:List (j7×gY)) (s':eL):Prop where
 grow:fI s s'
 fresh:s.heap.get? L=none
 BQ:s'.heap.Ns L (λ_=>none)
 old:∀x,(x,f7)∉ms->cells.lookup x=cl.lookup x
 own:∀x,(x,f7)∈ms->∃c,cells.lookup x=some c/\s.heap.get? c=none/\c≠L/\s'.heap.IsCell c none
 apart:∀x y c,(x,f7)∈ms->(y,f7)∈ms->cells.lookup x=some c->cells.lookup y=some c->x=y
theorem get?_none_of_le (a:H.objs.size<=z):H.get? z=none:=by
 induction e:H.get? z with
 |none=>rfl
 |some o=>exact absurd (rq e) (iY.mpr a)
theorem AD {Z:List (j7×eH)} {I:Option gY} {D:Option zv} {Q:zv->eL->Prop} (R:(aJ.names.map (·.1)).Nodup) (h:∀S l b,Made aJ.names cj m S l b->WE c L (forIn Z BJ λ(x:j7×eH) (_:PUnit)=>do Sx (vT aJ S z l ao I J D aV) x.1 x.2;pure (iN BJ)) (λ_ W=>Q (vT aJ S z l ao I J D aV) W) b):
 WE c L (GQ aJ z cj Z ao I J D aV) Q m:=by
 unfold GQ
 refine b5 (Yt ?_)
 generalize Y:(if D.isSome=true then "dict" else "frame")=T
 have O:m.heap.get? m.heap.objs.size=none:=ik _
 generalize w:({m with heap:=m.heap.push {cls:=.type T,data:=.dict #[]}}:eL)=F
 have H:fI m F:=by rw [<-w];exact jw _ _
 have N:F.heap.Ns m.heap.objs.size (λ_=>none):=by rw [<-w];exact Heap.Ns.new ..
 have u:F.heap.objs.size=m.heap.objs.size+1:=by rw [<-w];exact rD ..
 refine b5 ?_
 refine qP _
  (λX l b=>∃done,aJ.names=done++X/\Made done cj m m.heap.objs.size l b/\F.heap.objs.size<=b.heap.objs.size/\∀x f,(x,f7)∈done->l.lookup x=some f->f<b.heap.objs.size) _ ?_ ?_ _ _
  (qU [] rfl ⟨H,O,N,λ_ _=>rfl,(by intros;contradiction),(by intros;contradiction)⟩ (eJ _) (by intros;contradiction))
 .intro kn X l b V;obtain ⟨x,k⟩:=kn;refine rZ V λdone i M p s=>?_
  have K:=R
  rw [i,b_,eP] at K
  have km:∀j,(x,j)∉done:=λj hj=>K.2.2 x (ck.mpr (ej _ hj rfl)) x (by simp) rfl
  clear R h Y O w H N K km;clear V;by_cases t:k= .cell
  .subst t
   simp only [beq_self_eq_true,if_true]
   refine b5 (Yt (dk ?_))
   have G:=jw b {cls:=.type "cell",data:=.cell none}
   have U:b.heap.objs.size≠m.heap.objs.size:=by exact oz (ei (EO (fH _) u) p)
   have P:m.heap.get? b.heap.objs.size=none:=get?_none_of_le (by exact a_ (eA (EO (fH _) u)) p)
   refine qU (done++[(x,.cell)]) (by rw [i];simp) ⟨M.grow.trans G,M.fresh,?_,λy a=>?_,λy a=>?_,λy n f a A C v=>?_⟩ ?_ (λy f a E=>?_)
   .exact M.BQ.push _
   .have d:y≠x:=λe=>a (by rw [e];simp)
    rw [eM,beq_false_of_ne d]
    exact M.old y λq=>a (by simp [q])
   .clear u p s i G;by_cases d:y=x
    .clear M a;subst d
     exact ⟨b.heap.objs.size,(by simp),P,U,_,(eW _ rfl),rfl⟩
    .have g:(y,f7)∈done:=by simpa [d] using a
     refine OH (M.own y g) λf h1 h2 h3 o kl=>iK kl λh4 h5=>?_
     exact ⟨f,(by rw [eM,beq_false_of_ne d];exact h1),h2,h3,o,(fo _ h4),h5⟩
   .clear u p i G U P;by_cases d:y=x
    .clear M a;by_cases r:n=x
     .rw [d,r]
     .subst d
      have B:(n,f7)∈done:=by simpa [r] using A
      rw [eM,beq_false_of_ne r] at v
      simp only [eM,beq_self_eq_true,jK] at C
      have:=s n f B v
      exact absurd C (oz this)
    .have g:(y,f7)∈done:=by simpa [d] using a
     rw [eM,beq_false_of_ne d] at C
     clear a d;by_cases r:n=x
     .clear M A;subst r
      simp only [eM,beq_self_eq_true,jK] at v
      have:=s y f g C
      exact absurd v (oz this)
     .have B:(n,f7)∈done:=by simpa [r] using A
      rw [eM,beq_false_of_ne r] at v
      exact M.apart y n f g B C v
   .show _<=(b.heap.push _).objs.size
    rw [rD];exact pL p
   .show _<(b.heap.push _).objs.size
    rw [rD]
    clear u M p i G U P;by_cases d:y=x
    .clear s a;subst d
     simp only [eM,beq_self_eq_true,jK] at E
     exact E▸fH _
    .have g:(y,f7)∈done:=by simpa [d] using a
     rw [eM,beq_false_of_ne d] at E
     exact jq (s y f g E)
  .have:(k==f7)=false:=by simpa using t
   simp only [this,fX,if_false]
   refine dk (qU (done++[(x,k)]) (by rw [i];simp) ⟨M.grow,M.fresh,M.BQ,λy a=>M.old y λq=>a (by simp [q]),λy a=>?_,λy n f a A=>?_⟩ p (λy f a=>?_))
   .have g:(y,f7)∈done:=by simpa [nA t] using a
    exact M.own y g
   .have g:(y,f7)∈done:=by simpa [nA t] using a
    have B:(n,f7)∈done:=by simpa [nA t] using A
    exact M.apart y n f g B
   .have g:(y,f7)∈done:=by simpa [nA t] using a
    exact s y f g
 .clear R Y O w H N u;intro l b kq;refine rZ kq λdone i M _ _=>?_
  rw [eR] at i
  rw [<-i] at M
  have:=h _ l b M
  refine b5 (er ?_ (λ_ W q=>dk q) λ_ _ e=>e)
  clear h i M;rcases D with ⟨⟩<;>exact this
theorem R.kh (r:R c b m) (h:m.heap.get? z=none):¬ic c b z/\c.h₀.get? z=none:=by
 refine ⟨λf=>?_,?_⟩
 .refine eS (r.oD f) λo e _=>?_
  rw [h] at e;contradiction
 .induction e:c.h₀.get? z with
  |none=>rfl
  |some o=>rw [r.old z o e] at h;contradiction
theorem DG {T:List (j7×gY)} (r:R c b m) (C:(v.map (·.1)).Nodup) (M:Made v cj m z T ae) (l:zv) (hL:l.locals=z) (hc:l.cells=T) (H:l.scope.kind= .function) (X:l.globals=iD) (hb:l.builtins=j0) (D:∀x k,h_ v x=some k->l.kindOf x=some k\/(k= .free/\l.kindOf x=some .cell)) (kn:l.kindOf "__classdict__"=none) (V:∀x,(x,fD)∈v->∃a g,cj.lookup x=some a/\¬ic c b a/\c.h₀.get? a=none/\m.heap.IsCell a g) (S:∀x a,cj.lookup x=some a->(x,fD)∈v) (ku:∀x y a,cj.lookup x=some a->cj.lookup y=some a->x=y) (Z:∀(i:Nat) x g,(slots v)[i]? =some x->e[i]? =some (some g)->∃a F,cj.lookup x=some a/\m.heap.IsCell a (some F)/\RV c m.heap F g) (kx:e.length=(slots v).length) (km:BN v=true->l.code= .ref c.lc/\l.qual=c.EW):FR c l v e b ae:=by
 subst hL hc
 have U:∀{x:j7},(x,fD)∈v->(x,f7)∉v:=λj n=>by
  have:=DA ((jT C).mpr j) ((jT C).mpr n);contradiction
 have B:∀x a,l.cells.lookup x=some a->((x,f7)∈v/\m.heap.get? a=none/\a≠l.locals/\ae.heap.IsCell a none)\/((x,f7)∉v/\cj.lookup x=some a/\¬ic c b a/\c.h₀.get? a=none/\∃g,m.heap.IsCell a g):=by
  intro x a f
  by_cases G:(x,f7)∈v
  .refine eS (M.own x G) λc' j n=>?_
   rw [f] at j;obtain rfl:=d5 j
   exact .inl ⟨G,n⟩
  .rw [M.old x G] at f
   refine nW (V x (S x a f)) λc' g j n J N=>?_
   rw [f] at j;obtain rfl:=d5 j
   exact .inr ⟨G,f,n,J,g,N⟩
 have L:∀{a g},m.heap.IsCell a g->∀{d},m.heap.get? d=none->d≠a:=λh _ hd q=>by refine eS h λo ho _=>?_;rw [q,ho] at hd;contradiction
 refine iK (r.kh M.fresh) λkl kq=>?_
 refine ⟨⟨H,C,λx f=>?_,λx k f H=>?_,λx f=>?_,λx f=>?_,X,hb,λx y a f I=>?_,λx a f=>?_,kn⟩,λi x g hi hv=>?_,kx,(oK _ M.BQ),⟨kl,kq⟩,λx a f=>?_,km⟩
 .rcases D x _ f with h |⟨h,_⟩
  .exact h
  .contradiction
 .refine ⟨?_,?_⟩
  .rcases D x k f with h |⟨_,h⟩
   .rcases H with rfl |rfl
    .exact .inl h
    .exact .inr h
   .exact .inl h
  .have O:=(jT C).mp f
   rcases H with rfl |rfl
   .refine eS (M.own x O) λa j _=>?_;exact oK a j
   .refine i5 (V x O) λa g j _=>?_
    exact oK a ((M.old x (U O)).trans j)
 .rcases D x _ f with h |⟨h,_⟩
  .exact h
  .contradiction
 .rcases D x _ f with h |⟨h,_⟩
  .exact h
  .contradiction
 .rcases B x a f with ⟨u,p,t,s⟩ |⟨u,p,t,s,g,w⟩
  .rcases B y a I with ⟨E,A,K,P⟩ |⟨E,A,K,P,g,Q⟩
   .exact M.apart x y a u E f I
   .exact absurd rfl (L Q p)
  .rcases B y a I with ⟨E,A,K,P⟩ |⟨E,A,K,P,g,Q⟩
   .exact absurd rfl (L w A)
   .exact ku x y a p A
 .rcases B x a f with ⟨u,p,t,s⟩ |⟨u,p,t,s,g,w⟩
  .exact t.symm
  .exact L w M.fresh
 .refine jS (Z i x g hi hv) λa F j Y N=>?_;refine eS Y λo n J=>?_
  have W:=S x a j
  refine .inr (nX ?_ a F ((M.old x (U W)).trans j) ⟨o,M.grow.keep _ _ n,J⟩ (N.grow M.grow))
  rcases D x _ ((jT C).mpr W) with h |⟨_,h⟩<;>rw [h]<;>simp
 .rcases B x a f with ⟨u,p,t,s⟩ |⟨u,p,t,s,g,o,w,a6⟩
  .refine iK (r.kh p) λj n=>?_
   exact ⟨j,n,_,s⟩
  .exact rH t s g o (M.grow.keep _ _ w) a6
theorem AE:∀{b:List (j7×vz)} {x:j7},
 (b.map λ(n,k)=>if (k==fD&&ab.scope.kind==.function&&ab.kindOf n==some .cell) then (n,f7) else (n,k)).lookup x=(b.lookup x).map λk=>if (k==fD&&ab.scope.kind==.function&&ab.kindOf x==some .cell) then .cell else k:=by
 intro b x
 induction b with
 |nil=>rfl
 |cons p r c=>
  obtain ⟨n,k⟩:=p
  show pe x ((if (k==fD&&ab.scope.kind==.function&&ab.kindOf n==some .cell)=true then (n,f7) else (n,k))::_)=_
  by_cases d:x=n
  .clear c;subst d
   by_cases a:(k==fD&&ab.scope.kind==.function&&ab.kindOf x==some .cell)=true
   .rw [if_pos a,eM,eM,beq_self_eq_true,jV,if_pos a]
   .rw [if_neg a,eM,eM,beq_self_eq_true,jV,if_neg a]
  .have e:=beq_false_of_ne d
   clear d;by_cases a:(k==fD&&ab.scope.kind==.function&&ab.kindOf n==some .cell)=true
   .rw [if_pos a];simp only [eM,e];exact c
   .rw [if_neg a];simp only [eM,e];exact c
noncomputable def JW (caps:List (Option Nat)) (m:MM):MM:=caps.map λc=>c.bind λj=>(m[j]?).join
theorem Pa (F:FR c ab v e b m) (r:R c b m) (L:Dp aJ=true) (U:qY v aJ.names=true) {E:Option gY} (M:Made aJ.names (qB ab.cells aJ.names []) m z cj ae):FR c {vT aJ z ab.globals cj ao E J (some ab) aV with scope:=Wh aJ ab} aJ.names (JW (qm v aJ.names) e) b ae:=by
 refine qk (q6 (DF L).1) λB _ _ D Q=>?_
 have K:∀d,Env.kindOf {vT aJ z ab.globals cj ao E J (some ab) aV with scope:=Wh aJ ab} d=(h_ aJ.names d).map λk=>if (k==fD&&ab.scope.kind==.function&&ab.kindOf d==some .cell) then .cell else k:=λd=>by
  rw [sy];exact AE
 have A:∀d,(d,fD)∈aJ.names->∃f,ab.cells.lookup d=some f/\ab.kindOf d≠some .local:=λd g=>by
  rcases uG U d g with h |h
  .refine Q6 (F.ok.var d _ h (.inl rfl)) λa f C=>?_
   exact ej f C (by rcases a with a |a<;>rw [a]<;>simp)
  .refine Q6 (F.ok.var d _ h (.inr rfl)) λa f C=>?_
   exact ej f C (by rcases a with a |a<;>rw [a]<;>simp)
 have t:∀d f,(qB ab.cells aJ.names []).lookup d=some f->(d,fD)∈aJ.names/\ab.cells.lookup d=some f:=λd f g=>by
  refine iK (tl (cj:=ab.cells) (g:=aJ.names) (c:=[]) (b:=d)) λa1 V=>?_
  by_cases o:(d,fD)∈aJ.names
  .refine eS (A d o) λc' n _=>?_
   rw [a1 o,n] at g
   exact ⟨o,by rw [n];exact g⟩
  .rw [V o] at g;contradiction
 have I:∀d,(d,fD)∈aJ.names->∃f,ab.cells.lookup d=some f/\(qB ab.cells aJ.names []).lookup d=some f:=λd g=>by
  refine eS (A d g) λf n _=>?_
  refine ej f n ?_
  rw [(tl (cj:=ab.cells) (g:=aJ.names) (c:=[]) (b:=d)).1 g,n];rfl
 refine DG r D M _ rfl rfl B F.ok.globals F.ok.builtins (λd k g=>?_) ?_ (λd g=>?_) (λd f g=>(t d f g).1) (λd y f g N=>F.ok.apart d y f (t d f g).2 (t y f N).2) (λi d s W l=>?_) ?_ (λh=>by rw [(DF L).2] at h;contradiction)
 .rw [K d,g,jV]
  split
  .rename_i n
   simp only [eV,beq_iff_eq] at n
   exact .inr ⟨n.1.1,rfl⟩
  .exact .inl rfl
 .rw [K,sy,Q];rfl
 .refine eS (I d g) λf B p=>?_
  refine S7 (F.Du d f B) λX b2 s Z=>?_
  exact pg f s p X b2 Z
 .unfold JW qm at l
  rw (config:={}) [ee,ee,W,jV,jV] at l
  have l:=d5 l
  by_cases u:h_ aJ.names d=some .free
  .rw [if_pos u] at l
   refine eS (jh.mp l) λj hj l=>?_
   have G:=(jT D).mp u
   refine eS (A d G) λf n P=>?_
   have Y:e[j]? =some (some s):=by
    induction H:e[j]? using d_ with
    |none=>rw [H] at l;contradiction
    |some w=>rw [H] at l;exact congrArg some l
   rcases F.holds j d s (pj hj) Y with ⟨k,_⟩ |⟨_,c',T,kl,O,q⟩
   .exact absurd k P
   .refine eS (I d G) λc2 p S=>?_
    rw [kl] at p;obtain rfl:=d5 p
    exact nu _ T S O q
  .rw [if_neg u] at l;contradiction
 .unfold JW qm;simp
structure Cx (B:Base) (env:zv) (ns:gn) (D:gY) (st:AS) (s:eL) (st':AS) (s':eL):Prop where
 keep:∀b o,s.heap.get? b=some o->¬ic B st b->¬Own ns env b->b≠D->s'.heap.get? b=some o
 foot:∀b,ic B st' b->ic B st b\/s.heap.get? b=none
structure Acc (B:Base) (st:AS) (s:eL) (D:gY) (acc:List AV):Prop where
 obj:∃its k,s.heap.get? D=some (listOf its k)/\hX B s.heap its.toList acc
 len:acc.length<=fF
 nf:¬ic B st D
 h0:B.h₀.get? D=none
inductive Pb (B:Base) (n:Nat) (ns:gn):List gf->wZ->Prop where
 |nil:Pb B n ns [] .nil
 |cons {e:gf} {r:List gf} {c:CE} {cs:wZ}:ST B n ns e c->Pb B n ns r cs->Pb B n ns (e::r) (.cons c cs)
theorem zF.Sm (x:zF c ab v b m q ae):Cx c ab v z b m q ae:=⟨λa o e f w _=>x.keep a o e f w,x.foot⟩
theorem Cx.trans (x:Cx c ab v z b m q ae) (F:FR c ab v e q ae) (p:∃o,ae.heap.get? z=some o) (y:Cx c ab v z q ae ax aZ):Cx c ab v z b m ax aZ where
 keep a o g f w d:=y.keep a o (x.keep a o g f w d) (λn=>(x.foot a n).elim f λl=>by rw [l] at g;contradiction) w d
 foot a f:=(y.foot a f).elim (x.foot a) λl=>by
  by_cases i:ic c b a
  .exact .inl i
  .by_cases j:Own v ab a
   .refine eS (F.xo j) λo h _=>?_
    rw [l] at h;contradiction
   .by_cases k:a=z
    .clear x F y f i j;subst k;refine j_ p λo h=>?_;rw [l] at h;contradiction
    .induction g:m.heap.get? a with
     |none=>exact .inr rfl
     |some o=>rw [x.keep a o g i j k] at l;contradiction
theorem Cx.but (y:Cx c ab v z b m q ae) (g:vM aV ae aZ) (i:m.heap.get? aV=none):Cx c ab v z b m q aZ:=
 ⟨λa o e f w d=>g.keep a o (λh=>by clear y g f w d;subst h;rw [i] at e;contradiction) (y.keep a o e f w d),y.foot⟩
theorem Acc.has (a:Acc c b m z j):∃o,m.heap.get? z=some o:=i5 a.obj λd k e _=>⟨_,e⟩
theorem Acc.sC (a:Acc c b m z j):∀o,m.heap.get? z=some o->¬f_ o:=λo e=>by
 refine i5 a.obj λf k d _=>?_
 rw [e] at d;clear e;obtain rfl:=d5 d;exact qF _ _
theorem Acc.step (a:Acc c b m z j) (r:R c b m) (y:St c b m q ae):Acc c q ae z j:=by
 refine i5 a.obj λg k e d=>?_
 refine ⟨(nB g k (y.keep _ _ e a.nf) (d.step r y)),a.len,λf=>(y.foot z f).elim a.nf (λl=>by rw [l] at e;contradiction),a.h0⟩
theorem FR.Hn (F:FR c ab v e b m) (a:Acc c b m z j):¬Own v ab z/\ab.locals≠z/\∀x g,ab.cells.lookup x=some g->g≠z:=by
 refine i5 a.obj λu k n _=>?_
 have l:ab.locals≠z:=λq=>by
  refine Ae F.BQ λf o y s d p _=>?_
  rw [q,n] at d;(injection d with d;subst d);contradiction
 have i:∀x g,ab.cells.lookup x=some g->g≠z:=λx g h q=>by
  refine oJ (F.Du x g h) λ_ _ t o d p=>?_
  rw [q,n] at d;(injection d with d;subst d);contradiction
 exact iz (λw=>w.elim (λq=>l q.symm) λr=>eS r λx _ h=>i x z h rfl) l i
theorem Acc.Cu (a:Acc c b m z j) (r:R c b m) (F:FR c ab v e b m) (y:zF c ab v b m q ae):Acc c q ae z j:=by
 refine i5 a.obj λh k d g=>?_
 refine ⟨(nB h k (y.keep _ _ d a.nf (F.Hn a).1) (g.Cu r F y)),a.len,λf=>(y.foot z f).elim a.nf (λl=>by rw [l] at d;contradiction),a.h0⟩
theorem Acc.but (a:Acc c b m z j) (d:vM aV m ae) (f:aV≠z) (g:∀o,m.heap.get? aV=some o->¬f_ o):Acc c b ae z j:=by
 refine i5 a.obj λh k e q=>?_
 exact ⟨(nB h k (d.keep _ _ (nA f) e) (q.but d g)),a.len,a.nf,a.h0⟩
theorem Mf (a:Acc c b m z j) (r:R c b m) (F:FR c ab v e b m) (x:RV c m.heap J l) (s:j.length<fF) (h:∀g,FR c ab v e b g->R c b g->vM z m g->Acc c b g z (j++[l])->aG .none g):WE c L (nC (.builtin "list.append") [.ref z,J]) aG m:=by
 refine i5 a.obj λi k f q=>?_
 have u:i.size=j.length:=by rw [<-q.length,eB]
 refine vV rT (ej _ f rfl) By (SF _ _) (vY z i k J (a_ (by exact n1 u (eA s)) hY)) ⟨f,?_⟩
 have d:vM z m {m with heap:=m.heap.update z (fK λl=>l.push J)}:=by
  have t:iE z m.heap (m.heap.update z (fK λl=>l.push J)):=gK ..
  exact ⟨λy o d f=>(t.2 y d).trans f,rfl,rfl⟩
 refine mW (F.Hn a) λ_ A w=>?_
 obtain ⟨n,p⟩:∃n,(listOf i k).mapSeq (λl=>l.push J)=listOf (i.push J) n:=oK _ rfl
 refine h _ (F.but d A w a.sC) (r.but d a.nf a.h0 a.sC) d ⟨(nB (i.push J) n ?_ ?_),by rw [bh];exact s,a.nf,a.h0⟩
 .rw [<-p];exact nE _ f (by rw [p];rfl)
 .rw [sm];exact (q.but d a.sC).append (.cons (x.but d a.sC) .nil)
theorem Mg (q:Pb c a v az ar):∀{A:jc} {b:zv} {m:MM} {d:AS} {s:eL} {Q:Bool->AS->Prop},mP a A->FR c b v m d s->R c d s->Oi PG (eE PG a) ar m d Q->
 WE c A (forIn az true λf r=>if r=true then do let i <-GR f b (vU f b);pure (iN i) else pure (iN r)) (Aw c d s Q) s:=by
 have u:∀(az:List gf) (b:zv),(forIn az false λf r=>if r=true then do let i <-GR f b (vU f b);pure (iN i) else pure (iN r):Ox Bool)=pure false:=by
  intro az b
  induction az with
  |nil=>rfl
  |cons e r j=>rw [qK];simp only [fX,if_false,pure_bind];exact j
 induction q with
 |nil=>intro A b m d s Q k F r h;exact dk ⟨d,r,.refl,h⟩
 |cons w y j=>
  intro A b m d s Q k F r h
  rw [qK]
  simp only [if_true]
  refine b5 (b5 (qZ (w A b m d s _ k F r h) (λt x o l g n=>dk ?_)))
  dsimp only
  induction t with
  |true=>exact er (j k (F.step r g) l n) (λ_ _ p=>p.trans g) λ_ _ e=>e
  |false=>rw [u];exact dk ⟨o,l,g,n⟩
noncomputable def Cy (B:Base) (n:Nat) (ns:gn) (P:MM->MM->Prop) (act:gY->zv->Ox Unit) (sem:MM->List AV->AS->(List AV->AS->Prop)->Prop):Prop:=
 ∀(A:jc) (env:zv) (m:MM) (st:AS) (s:eL) (D:gY) (acc:List AV) (K:List AV->AS->Prop),mP n A->FR B env ns m st s->R B st s->Acc B st s D acc->sem m acc st K->
  WE B A (act D env) (λ_ s'=>∃acc' m' st',P m m'/\FR B env ns m' st' s'/\R B st' s'/\Cx B env ns D st s st' s'/\Acc B st' s' D acc'/\K acc' st') s
noncomputable def Mh (n:Nat) (it:It) (tg:List Nat) (mb:MM) (cs:wZ) (sem:MM->List AV->AS->(List AV->AS->Prop)->Prop) (K:List AV->AS->Prop) (xs:List AV):List AV->AS->Prop:=
 xs.foldr (λx k acc st=>it.ok st/\∃m',jN tg x mb=some m'/\Oi PG (eE PG n) cs m' st λt st=>if t then sem m' acc st k else k acc st)
 (λacc st=>it.ok st/\K acc st)
noncomputable def Rq (elt:gf) (D:gY) (env:zv):Ox Unit:=do
 let x <-vU elt env
 let _ <-nC (.builtin "list.append") [.ref D,x]
noncomputable def Pc (e:gf) (d:Nat) (i:gf) (D:gY) (env:zv):Ox Unit:=do
 let x <-vU i env
 GA i.pos
 let x <-Sa i env x
 let it <-yQ [x] (QT x)
 let _ <-runOwn (.compStart e d it (.ref D) env) env
noncomputable def uH (t i:gf) (fs:List gf) (it:eH) (act:Ox Unit) (env:zv) (c:Code):Ox Fin:=do
 GA i.pos
 match <-UY it with
 |none=>pure (.done .next)
 |some v=>
  rS t it v
  x7 t env v
  let ok <-forIn fs true λc r=>if r=true then do let ok <-GR c env (vU c env);pure (iN ok) else pure (iN r)
  if ok then do
   act
   Yu c
  else Yu c
variable {br:List ug}
theorem zb (d:br[a]? =some ⟨aH,aW,az,0⟩) (e:br[a+1]? =none) (c:eH) (D:gY) (b:zv):
 sV (.ListComp a0 br aJ aa) a c (.ref D) b=uH aH aW az c (Rq a0 D b) b (.compLoop (.ListComp a0 br aJ aa) a c (.ref D) b):=by
 unfold sV
 dsimp only
 rw [d,e]
 rfl
theorem xp {h d:gf} {g:List gf} (e:br[a]? =some ⟨aH,aW,az,0⟩) (f:br[a+1]? =some ⟨h,d,g,0⟩) (c:eH) (D:gY) (b:zv):
 sV (.ListComp a0 br aJ aa) a c (.ref D) b=uH aH aW az c (Pc (.ListComp a0 br aJ aa) (a+1) d D b) b (.compLoop (.ListComp a0 br aJ aa) a c (.ref D) b):=by
 unfold sV
 dsimp only
 rw [e,f]
 unfold uH Pc
 simp only [bind_assoc,pure_bind]
 rfl
theorem Cx.frozen (r:R c b m) (F:FR c ab v e b m) (a:Acc c b m z j) (x:Cx c ab v z b m q ae):∀g o,m.heap.get? g=some o->f_ o->ae.heap.get? g=some o:=λg o h f=>
 x.keep g o h (λi=>by
  refine eS (r.oD i) λk d n=>?_
  rw [h] at d;(injection d with d;subst d);exact n f) (λw=>by
  refine gj (F.xo w) λk d n _=>?_
  rw [h] at d;(injection d with d;subst d);exact n f) λi=>by clear r F x;subst i;exact a.sC _ h f
theorem St.Sm (x:St c b m q ae):Cx c ab v z b m q ae:=x.toF.Sm
theorem Sn {t:Ox h} {Q:h->eL->Prop} (a:WE c L t Q m):gc (hU c.prog c.w) L t Q aG m:=er a (λ_ _ q=>q) λ_ _ e=>e.elim
variable {cY:gY->zv->Ox Unit} {cH:MM->MM->Prop}
theorem Cz {kB:MM->List AV->AS->(List AV->AS->Prop)->Prop} (lq:∀bC z ab,sV (.ListComp a0 br aJ aa) d bC (.ref z) ab=uH aH aW az bC (cY z ab) ab (.compLoop (.ListComp a0 br aJ aa) d bC (.ref z) ab)) (ht:Am v aH=some C) (lE:Pb c a v az ar) (lu:Cy c a v cH cY kB) (kW:∀kK,cH kK kK) (kU:∀(x:AV) (u m2:MM) (Q ky:AS) (X s2:eL) (j:List AV),jN C x e=some u->cH u m2->FR c ab v e Q X->R c Q X->Acc c Q X z j->FR c ab v m2 ky s2->Cx c ab v z Q X ky s2->FR c ab v e ky s2) (P:mP a L) (F:FR c ab v e b m) (r:R c b m) (lg:Acc c b m z j) (kx:wJ c m.heap aV bC aN 0) (kq:aV≠z) (ly:¬ic c b aV) (kO:c.h₀.get? aV=none) (kz:ab.locals≠aV) (kl:∀x kV,ab.cells.lookup x=some kV->kV≠aV) (y:Cx c ab v z q ae b m) (kH:ae.heap.get? aV=none) (h:Mh a bC C e ar kB bL aN j b) (hZ:∀p i n,FR c ab v e i n->R c i n->Cx c ab v z q ae i n->Acc c i n z p->bL p i->bG (.ok .next) n):
 sq (hU c.prog c.w) L (.compLoop (.ListComp a0 br aJ aa) d (.ref aV) (.ref z) ab) bG m:=by
 have kI:¬Own v ab aV:=λw=>w.elim (λkx=>kz kx.symm) λzf=>eS zf λx _ hc=>kl x aV hc rfl
 refine codeAny_loop rfl (λk n=>∃aW p i,k=aN.length -aW/\FR c ab v e i n/\R c i n/\Cx c ab v z q ae i n/\Acc c i n z p/\wJ c n.heap aV bC aN aW/\¬ic c i aV/\Mh a bC C e ar kB bL (aN.drop aW) p i) ?_ aN.length
  ⟨0,j,b,rfl,F,r,y,lg,kx,ly,h⟩
 intro k n lr;refine Q5 k lr λaW p i lC=>Ad lC λF' r' y' a' q' G O=>?_
 show gc _ L ((sV (.ListComp a0 br aJ aa) d (.ref aV) (.ref z) ab).onRaise (λx=>do Sz x ab;Uk x)) _ _ n
 refine Yr ?_
 rw [lq]
 unfold uH
 have B:∀o,n.heap.get? aV=some o->¬f_ o:=λo g=>by refine eS q'.nf λo' e' nf=>?_;rw [g] at e';obtain rfl:=d5 e';exact nf
 induction J:aN[aW]? using d_ with
 |none=>
  rw [pE (by simpa using J)] at O
  refine iK O λK H=>?_
  refine b5 (mM (b5 (er (q'.done r' K P.handled J) (λlD E t=>?_) λ_ _ g=>g.elim)))
  refine iK t λg s=>?_
  subst g
  exact dk (hZ p i E (F'.but s kz kl B) (r'.but s G kO B) (y'.but s kH) (a'.but s kq B) H)
 |some x=>
  rw [drop_cons J] at O
  refine iK O λK H=>?_
  refine b5 (mM (b5 (er (q'.next r' K J) (λlD E t=>?_) λ_ _ g=>g.elim)))
  refine rZ t λw g s kN qw=>?_
  subst g
  have A:=F'.but s kz kl B
  have M:=r'.but s G kO B
  have kM:=y'.but s kH
  have I:=a'.but s kq B
  refine b5 (Sn (y_ kN aH w ?_))
  refine eS H λu kF H=>?_
  refine b5 (Sn (DB A M P.handled ht kF qw λlh km S Y=>?_))
  have lz:=I.Cu M A Y
  have kQ:wJ c lh.heap aV bC aN (aW+1):=kN.mono (Y.frozen M A) λo g=>Y.keep aV o g G kI
  refine b5 (er (Mg lE P km S H) (λK W t=>?_) λ_ _ g=>g.elim)
  obtain ⟨N,kC,D,Z⟩:=t
  have T:=km.step S D
  have V:=lz.step S D
  have ku:¬ic c N aV:=λf=>(D.foot aV f).elim G λl=>by refine eS kQ.nf λo g _=>?_;rw [l] at g;contradiction
  have kD:wJ c W.heap aV bC aN (aW+1):=kQ.mono (D.frozen S) λo g=>D.keep aV o g G
  have kn:Cx c ab v z i E N W:=(Y.trans km D.toF).Sm
  have kT:=(ew.mp J).1
  induction K using j5 with
  |false=>
   simp only [fX,if_false] at Z⊢
   exact dk ⟨rfl,(aN.length - (aW+1)),(by exact Ju aN.length aW kT),(aW+1),p,N,rfl,(kU x u u i N E W p kF (kW _) A M I T kn),kC,(kM.trans A I.has kn),V,kD,ku,Z⟩
  |true=>
   simp only [if_true] at Z⊢
   refine b5 (er (lu L ab u N W z p _ P T kC V Z) (λ_ kG t=>?_) λ_ _ g=>g.elim)
   refine sZ t λlA kZ kP hP kY lB U lj kX=>?_
   have kJ:=kn.trans T V.has U
   have lx:wJ c kG.heap aV bC aN (aW+1):=kD.mono (U.frozen kC T V) λo g=>U.keep aV o g ku kI kq
   exact dk ⟨rfl,aN.length - (aW+1),by exact Ju aN.length aW kT,aW+1,lA,kP,rfl,kU x u kZ i kP E kG p kF hP A M I kY kJ,lB,kM.trans A I.has kJ,lj,lx,λf=>(U.foot aV f).elim ku (λl=>by
    refine eS kD.nf λo g _=>?_
    rw [l] at g;contradiction),kX⟩
theorem Fi (b:br[a]? =some ⟨aH,aW,az,0⟩) (q:wJ c m.heap z bC j d) (h:sq (hU c.prog c.w) L (.compLoop (.ListComp a0 br aJ aa) a (.ref z) J ab) bG m):sq (hU c.prog c.w) L (.compStart (.ListComp a0 br aJ aa) a (.ref z) J ab) bG m:=by
 refine codeAny_of_tree ?_
 show gc _ _ ((compStart (.ListComp a0 br aJ aa) a (.ref z) J ab).onRaise (λx=>do Sz x ab;GA theWindowsPlace)) _ _ m
 refine wpAny_notedAt ?_
 unfold compStart
 show gc _ _ (if (br[a]?).elim false (λx=>x.is_async !=0)=true then _ else _) _ _ m
 rw (config:={}) [b]
 show gc _ _ (ask>>= _) _ _ m
 refine b5 (Sw (wpAny_ite ?_))
 split
 .first
   |exact b5 (dk (dk (And.intro rfl h)))
   |exact dk (And.intro rfl h)
 .refine b5 (nF ?_)
  show gc _ _ (match br[a]? with |some g=>GA g.iter.pos>>= λ_=>(do let v <-QT (.ref z);Yu (.compLoop (.ListComp a0 br aJ aa) a v J ab)) |x=>(do let v <-QT (.ref z);Yu (.compLoop (.ListComp a0 br aJ aa) a v J ab))) _ _ m
  rw [b]
  exact b5 (mM (b5 (Sn (Hk q (dk (And.intro rfl h))))))
theorem Mi (E:SE c a v a0 g):Cy c a v Eq (Rq a0) (VG PG (eE PG a) (VE PG (eE PG a) g) .nil):=λA u m t s D I K B F r y h=>by
 unfold Rq
 refine b5 (f5 (E A u m t s _ B F r h) (λM L x p q C i j=>?_))
 have n:=F.step r i
 have l:=y.step r i
 refine b5 (Mf l C n q j.1 λJ H G z k=>dk ⟨_,m,p,rfl,H,G,?_,k,j.2⟩)
 exact ⟨λb o e f w d=>z.keep b o d (i.keep b o e f),i.foot⟩
theorem IK:∀{d:List Nat} {a:MM} {i:Nat} {v:AV},(Oh d a)[i]? =some (some v)->i∉d/\a[i]? =some (some v):=by
 intro k
 induction k with
 |nil=>
  intro a i v h
  exact ⟨(by (repeat intro _);contradiction),h⟩
 |cons j d e=>
  intro a i v h
  refine iK (e (a:=a.set j none) h) λf b=>?_
  clear e h;by_cases c:i=j
  .subst c
   rw [List.getElem?_set_self'] at b
   induction q:a[i]? with |_=>rw [q] at b;cases b
  .rw [iH (nA c)] at b
   exact ⟨λg=>(eK.mp g).elim c f,b⟩
theorem Pd:∀{b:List Nat} {a:MM},(Oh b a).length=a.length:=by
 intro d
 induction d with
 |nil=>
  intro a
  exact rfl
 |cons j b c=>
  intro a
  exact (c (a:=a.set j none)).trans gJ
theorem ym:∀{l:List Nat} {a:List AV} {m:MM} {i:Nat},i∉l->(pF m l a)[i]? =m[i]?
 |[],a,m,i,_=>by rcases a with ⟨⟩<;>rfl
 |j::l,[],m,i,_=>rfl
 |j::l,x::a,m,i,b=>by
  have c:i≠j:=λe=>b (e▸.head _)
  show (pF (m.set j (some x)) l a)[i]? =m[i]?
  rw [ym λh=>b (.tail _ h),iH (nA c)]
theorem JX (h:jN C l e=some bP) (c:a∉C):bP[a]? =e[a]? :=by
 match C,h with
 |[j],h=>
  (injection h with h;subst h)
  exact iH λg=>c (by rw [g];exact .head _)
 |[],h=>
  induction l using AV.casesOn with
  |tup f=>exact (Lu h).2▸ym c
  |_=>contradiction
 |k::b::i,h=>
  refine gj (wc (by simp) h) λf _ _ d=>?_;subst d
  exact ym c
theorem FR.weaken (F:FR c ab v e b m) (g:bP.length=e.length) (h:∀(i:Nat) (a:AV),bP[i]? =some (some a)->e[i]? =some (some a)):FR c ab v bP b m where
 ok:=F.ok
 holds i x a d f:=F.holds i x a d (h i a f)
 len:=g.trans F.len
 BQ:=F.BQ
 E0:=F.E0
 Du:=F.Du
 code:=F.code
theorem TG (x:AV) (k l:MM) (b f:AS) (d g:eL) (n:List AV) (o:jN C x (Oh C e)=some k) (m:k=l) (F:FR c ab v (Oh C e) b d) (r:R c b d) (a:Acc c b d z n) (j:FR c ab v l f g) (y:Cx c ab v z b d f g):FR c ab v (Oh C e) f g:=by
 subst m
 refine j.weaken (F.len.trans j.len.symm) λi p h=>?_
 rw [JX o (IK h).1];exact h
noncomputable def Fj (ns:gn) (m:MM):Prop:=∀(i:Nat) x v,(slots ns)[i]? =some x->m[i]? =some (some v)->h_ ns x=some .free
theorem TH (G:Fj v e) (x:AV) (A B:MM) (g l:AS) (j m:eL) (M:List AV) (S:jN C x e=some A) (O:cH A B) (F:FR c ab v e g j) (r:R c g j) (a:Acc c g j z M) (n:FR c ab v B l m) (y:Cx c ab v z g j l m):FR c ab v e l m where
 ok:=F.ok
 holds i b s t D:=by
  have p:=G i b s t D
  refine Q6 (F.ok.var b _ p (.inr rfl)) λN Q P=>?_
  rcases F.holds i b s t D with ⟨k,_⟩ |⟨k,d,K,f,⟨o,J,H⟩,q⟩
  .rcases N with h |h<;>rw [k] at h<;>contradiction
  .refine .inr (nX k d K f ⟨o,y.keep d o J (F.Du b d f).1 (λw=>?_) ((F.Hn a).2.2 b d f),H⟩ (q.mono (y.frozen r F a)))
   rcases w with L |⟨u,E,I⟩
   .exact F.ok.Hf b d f L.symm
   .have:=F.ok.apart b u d f I
    subst this
    rw [p] at E;contradiction
 len:=F.len
 BQ:=n.BQ
 E0:=n.E0
 Du:=n.Du
 code:=F.code
theorem Rr (H:gV c) (p:br[d]? =some ⟨aH,aW,az,0⟩) (S:br[d+1]? =none) (ht:Am v aH=some C) (y:xa aW=true) (t:SE c a v aW g) (ky:Pb c a v az ar) (Z:SE c a v a0 D):
 Cy c a v (λ_ _=>True) (Pc (.ListComp a0 br aJ aa) d aW) (VG PG (eE PG a) (VE PG (eE PG a) D) (.cons C g ar .nil)):=λA l m st s W kD Q E F r B h=>by
 unfold Pc
 refine b5 (f5 (t A l m st s _ E F r h.2) (λkB ku x w G b j J=>?_))
 have n:=F.step r j
 have k:=B.step r j
 refine b5 (mM (b5 ?_))
 rw [uF y l]
 refine dk (b5 (f6 (er (wb H b G J) (λiv kq z=>?_) λ_ _ e=>e.elim)))
 refine oV z λI it xs e i f u kn=>?_
 clear H y t F r B G J z;subst e
 refine mW (n.Ff f) λO R kC=>?_
 refine iK (b.kh f) λM kx=>?_
 have kl:=n.step b (.grow i)
 have N:=k.step b (.grow i)
 have km:I≠W:=λq=>by subst q;refine j_ k.has λo e=>?_;rw [f] at e;contradiction
 refine b5 (wpAny_runOwn (Fi p u ?_))
 have T:FR c l v (Oh C m) w kq:=kl.weaken Pd λaW kB h=>(IK h).2
 refine Cz (q:=w) (ae:=ku) (e:=Oh C m) (cH:=Eq) (bL:=Q) (zb p S) ht ky (Mi Z) (λ_=>rfl) TG E T (b.grow i) N u km M kx O R (Ex i).Sm f kn ?_
 intro L kz s' X r' Y V U
 exact dk ⟨L,(Oh C m),kz,trivial,X,r',(j.Sm.trans n k.has Y),V,U⟩
theorem R.TJ {o:AO} (r:R c b m) (j:¬ic c b z) (w:c.h₀.get? z=none) (u:RO c m.heap z o) (p:∀i t g,o≠.inst i t g):
 b.free z/\R c (b.set z o) m/\∀d,ic c (b.set z o) d->ic c b d\/d=z:=by
 have n:b.free z:=⟨by
  induction e:b z with
  |none=>rfl
  |some x=>exact absurd (.inl (by rw [e];simp)) j,λd i g e=>j (.inr (.inl (qA d i g e)))⟩
 have s:z≠c.tab:=λe=>j (.inr (.inr e))
 have v:∀d,ic c (b.set z o) d->ic c b d\/d=z:=by
  clear r j w u n s;rintro d (h |⟨a,i,g,h⟩ |h)
  .by_cases k:d=z
   .exact .inr k
   .rw [gw k] at h;exact .inl (.inl h)
  .by_cases f:a=z
   .subst f;rw [gX] at h;(injection h with h;subst h);exact absurd rfl (p _ _ _)
   .rw [gw f] at h;exact .inl (.inr (.inl (qA a i g h)))
  .exact .inl (.inr (.inr h))
 refine iz n ⟨λa x e=>?_,r.old,λd k=>?_,λa i t g e=>?_,?_,r.tab,r.gens,r.os⟩ v
 .clear j w p n s v;by_cases f:a=z
  .clear r;subst f;rw [gX] at e;(injection e with e;subst e);exact u
  .rw [gw f] at e;exact r.objs a x e
 .clear j u p n s;rcases v d k with h |rfl
  .exact r.new d h
  .exact w
 .have f:a≠z:=λq=>by subst q;rw [gX] at e;(injection e with e;subst e);exact absurd rfl (p _ _ _)
  rw [gw f] at e
  refine mW (r.Cq a i t g e) λB A C=>?_
  have y:t≠z:=λq=>n.2 a i g (q▸e)
  refine iz (by rw [gw y];exact B) A (λd E D l=>?_)
  clear r j w u n s v e f B A y;by_cases k:d=z
  .subst k;rw [gX] at l;(injection l with l;subst l);exact absurd rfl (p _ _ _)
  .rw [gw k] at l;exact C d E D l
 .rw [gw (nA s)];exact r.vB
theorem adopt (r:R c q ae) (a:Acc c q ae z j) (y:Cx c ab v z b m q ae) (l:m.heap.get? z=none) (n:∀d,Own v ab d->m.heap.get? d=none):
 q.free z/\R c (q.set z (.list j)) ae/\St c b m (q.set z (.list j)) ae:=by
 refine i5 a.obj λu k e i=>?_
 obtain ⟨f,p,t⟩:=r.TJ a.nf a.h0 (.list e i a.len) (by (repeat intro _);contradiction)
 refine ⟨f,p,λd o g s=>y.keep d o g s (λw=>by rw [n d w] at g;contradiction) (λi=>by rw [i,l] at g;contradiction),λd g=>?_⟩
 clear r a n e i f p;rcases t d g with h |rfl
 .exact y.foot d h
 .exact .inr l
theorem JY:Fj aJ.names (JW (qm v aJ.names) e):=λi x d c a=>by
 unfold JW qm at a
 rw (config:={}) [ee,ee,c,jV,jV] at a
 have a:=d5 a
 by_cases b:h_ aJ.names x=some .free
 .exact b
 .rw [if_neg b] at a;contradiction
theorem CA (HB:gV c) {lr:MM->List AV->AS->(List AV->AS->Prop)->Prop} (kI:Dp aJ=true) (ky:qY v aJ.names=true) (kV:∀E D ab,sV (.ListComp a0 (⟨aH,aW,az,0⟩::br) aJ aa) 0 E (.ref D) ab=uH aH aW az E (cY D ab) ab (.compLoop (.ListComp a0 (⟨aH,aW,az,0⟩::br) aJ aa) 0 E (.ref D) ab)) (ht:Am aJ.names aH=some C) (j:xa aW=true) (hi:SE c a v aW g) (lB:Pb c a aJ.names az ar) (kY:Cy c a aJ.names cH cY lr) (kJ:∀e,cH e e) (hr:mP a L) (F:FR c ab v e b m) (r:R c b m) {ly:Option (eH->Ox Unit)} (h:VE PG (eE PG a) g e b λkH b=>oi b (λE xs=>Mh a E C (JW (qm v aJ.names) e) ar lr (λlF b=>∀t,b.free t->n (.ref t) (b.set t (.list lF))) xs [] b) kH) (hZ:∀D S N A,RV c A.heap (.ref D) (.ref D)->R c N A->St c b m N A->n (.ref D) N->Oj c b m S->¬ic c N S->(∃e,A.heap.Ns S e)->compPost (hU c.prog c.w) L Vt ly aG (.ref D) S (.ok .next) A):
 WE c L (VW (.ListComp a0 (⟨aH,aW,az,0⟩::br) aJ aa) aJ ab b9 (Wi []) false (vU aW ab) ly) aG m:=by
 refine qk (q6 (DF kI).1) λu _ _ X h5=>?_
 have kG:∀i,(i,fD)∈aJ.names->∃t,ab.cells.lookup i=some t:=λi z=>by
  rcases uG ky i z with h |h
  .exact (F.ok.var i _ h (.inl rfl)).2
  .exact (F.ok.var i _ h (.inr rfl)).2
 refine wpAny_comprehension_free rfl (uF j ab) (vO kG) u (λi z hl=>?_) (f5 (hi L ab e b m _ hr F r h) (λkH G i kM qv H T lh=>?_))
 .rw [<-sy];exact (jT X).mpr (hl▸z)
 refine er (wb HB H qv lh) (λiv p ζ=>?_) λ_ _ d=>d.elim
 refine oV ζ λI E xs d K O kz kU=>?_
 clear ζ;subst d
 have kq:=F.step r T
 have lx:=kq.step H (.grow K)
 have ku:=H.grow K
 unfold Wi
 refine ko (hd:=by size_fits) ?_
 have y:=jw p (listOf #[] 0)
 have W:p.heap.get? p.heap.objs.size=none:=ik _
 show WE c L (GQ aJ ab.globals (qB ab.cells aJ.names []) [] ab.qual none .none (some ab)) _ {p with heap:=p.heap.push (listOf #[] 0)}
 generalize kP:p.heap.objs.size=D at W⊢
 have kC:({p with heap:=p.heap.push (listOf #[] 0)}:eL).heap.get? D=some (listOf #[] 0):=by rw [<-kP];exact eW _ rfl
 generalize lE:({p with heap:=p.heap.push (listOf #[] 0)}:eL)=lD at y kC⊢
 have kT:=lx.step ku (.grow y)
 have kF:=ku.grow y
 refine AD X λB kB kN M=>dk ?_
 have Fc:=Pa (ao:=ab.qual) (E:=none) (J:=.none) (aV:=j0) kT kF kI ky M
 have kW:=kF.grow M.grow
 have km:=K.trans y
 have V:∀{s:gY},lD.heap.get? s=none->G.heap.get? s=none:=λ{s} P=>by
  induction d:G.heap.get? s using d_ with
  |none=>rfl
  |some o=>rw [km.keep s o d] at P;contradiction
 have kn:G.heap.get? D=none:=by
  induction d:G.heap.get? D using d_ with
  |none=>rfl
  |some o=>rw [K.keep D o d] at W;contradiction
 refine iK (H.kh kn) λlz kK=>?_
 have lu:=M.grow.keep _ _ kC
 have lq:Acc c kM kN D []:=⟨(nB (#[]) 0 lu .nil),fy _,lz,kK⟩
 have kx:wJ c kN.heap I E xs 0:=kz.mono (λkl o d _=>M.grow.keep _ _ (y.keep _ _ d)) λo d=>M.grow.keep _ _ (y.keep _ _ d)
 refine iK (H.kh O) λlj lg=>?_
 have Q:∃o,p.heap.get? I=some o:=eS kz.nf λo d _=>(oK o d)
 have kQ:I≠D:=λq=>by subst q;refine j_ Q λo d=>?_;rw [W] at d;contradiction
 have lA:B≠I:=λq=>by
  refine j_ Q λo d=>?_
  have:=M.fresh
  rw [q,y.keep _ _ d] at this;contradiction
 have kZ:∀i t,kB.lookup i=some t->t≠I:=λi t j q=>by
  by_cases z:(i,f7)∈aJ.names
  .refine gj (M.own i z) λc' u h2 _=>?_
   rw [j] at u;obtain rfl:=d5 u
   refine j_ Q λo d=>?_
   rw [q,y.keep _ _ d] at h2;contradiction
  .rw [M.old i z] at j
   refine iK (tl (cj:=ab.cells) (g:=aJ.names) (c:=[]) (b:=i)) λa1 a2=>?_
   by_cases hm:(i,fD)∈aJ.names
   .refine j_ (kG i hm) λc' kO=>?_
    rw [a1 hm,kO] at j
    (injection j with j;subst j)
    refine oJ (kq.Du i _ kO) λ_ _ kH o J _=>?_
    have q:c'=I:=q
    rw [q,O] at J;contradiction
   .rw [a2 hm] at j;contradiction
 have lC:∀s,Own aJ.names {vT aJ B ab.globals kB ab.qual none .none (some ab) j0 with scope:=Wh aJ ab} s->G.heap.get? s=none:=by
  rintro s (w |⟨i,z,j⟩)
  .have w:s=B:=w
   rw [w];exact V M.fresh
  .have j:kB.lookup i=some s:=j
   refine gj (M.own i ((jT X).mp z)) λc' u h2 _=>?_
   rw [j] at u;(injection u with u;subst u)
   exact V h2
 refine Fi (by rfl) kx ?_
 refine Cz (q:=kM) (ae:=G) kV ht lB kY kJ (TH JY) hr Fc kW lq kx kQ lj lg lA kZ (Ex (km.trans M.grow)).Sm O kU ?_
 intro lG N A U r' y' Z hK
 refine mW (adopt r' Z y' kn lC) λhf kX Y=>?_
 have kD:G.heap.get? B=none:=V M.fresh
 refine hZ D B _ A (.ref D) kX (T.trans Y) (hK D hf) (Oj.of T kD) (λf=>?_) U.BQ
 rcases Y.foot B f with f |l
 .exact (H.kh kD).1 f
 .exact U.E0.1 (by
   rcases f with f |⟨kl,t,az,d⟩ |f
   .by_cases P:B=D
    .refine Ae U.BQ λf0 o es ep J lH _=>?_
     refine i5 Z.obj λlI k d _=>?_
     have J:A.heap.get? B=some o:=J
     rw [P,d] at J;obtain rfl:=d5 J;contradiction
    .rw [gw P] at f;exact .inl f
   .clear HB kI ky kV ht j hi lB kY kJ hr F r h hZ u X h5 kG qv H T lh K O kz kU kq lx ku kP W lE y kC kT kF M Fc kW km V kn lz kK lu lq kx lj lg Q kQ lA kZ lC U r' y' Z hK hf kX Y kD l;by_cases ha:kl=D
    .subst ha;rw [gX] at d;(injection d;contradiction)
    .rw [gw ha] at d;exact .inr (.inl (qA kl t az d))
   .exact .inr (.inr f))
theorem yn (c:iE z m.heap H):vM z m {m with heap:=H}:=⟨λb o a e=>(c.2 b a).trans e,rfl,rfl⟩
variable {bu:j7->Option eH}
theorem TK (h:m.heap.Ns z bu):∀o,m.heap.get? z=some o->¬f_ o:=λo e=>by
 refine wW h λc f d a b _=>?_
 rw [e] at a;obtain rfl:=d5 a;exact rJ b
variable {bD:Gens}
theorem Mj (S:gV c) (T:Dp aJ=true) (B:qY v aJ.names=true) (M:∀H i d,sV (.ListComp a0 (⟨aH,aW,az,0⟩::br) aJ aa) 0 H (.ref i) d=uH aH aW az H (cY i d) d (.compLoop (.ListComp a0 (⟨aH,aW,az,0⟩::br) aJ aa) 0 H (.ref i) d)) (K:Am aJ.names aH=some C) (I:xa aW=true) (E:SE c a v aW g) (P:Pb c a aJ.names az ar) (N:Cy c a aJ.names cH cY (VG PG (eE PG a) (VE PG (eE PG a) D) bD)) (z:∀m,cH m m):
 SE c a v (.ListComp a0 (⟨aH,aW,az,0⟩::br) aJ aa) (.comp (qm v aJ.names) D C g ar bD)/\SU c a v (.ListComp a0 (⟨aH,aW,az,0⟩::br) aJ aa) (.comp (qm v aJ.names) D C g ar bD):=by
 constructor
 .intro A d m st s G w F r h
  rw [eval_ListComp]
  refine CA (ly:=none) (n:=G) S T B M K I E P N z w F r h ?_
  intro i L R t O y l p k j X;refine j_ X λf n=>?_
  refine ej f n (λh' x=>?_)
  have J:=yn x
  exact ⟨.ref i,R,.ref i,y.but J j (k.h0 r) (TK n),⟨λb o e Y=>J.keep b o (λq=>by clear S T B M K I E P N z w F r h O y l p j n x J;clear X;subst q;exact Y (k o e)) (l.keep b o e Y),l.foot⟩,p⟩
 .intro A d m st s G W u w F r h hu
  show WE c A (do let _ <-VW (.ListComp a0 (⟨aH,aW,az,0⟩::br) aJ aa) aJ d (firstIterPos (⟨aH,aW,az,0⟩::br) aa) (Wi []) false (vU aW d) (some u)) W s
  refine b5 (er (CA (ly:=some u) (n:=G) (aG:=λ_ t=>W () t) S T B M K I E P N z w F r h ?_) (λ_ _ q=>dk q) λ_ _ e=>e)
  intro i L R t O y l p k j kl;refine j_ kl λf n=>?_
  refine er (hu _ _ R t O y l p) (λ_ km ζ=>?_) λ_ _ e=>e
  refine iK ζ λh1 h2=>?_
  refine ya n λo es ep ho V=>?_
  have U:=h1 L o ho k j
  exact ej f ⟨o,es,ep,U,V⟩ (λh' x=>h2 L _ (yn x) k j λo2 e=>by rw [U] at e;obtain rfl:=d5 e;exact rJ V.1)
noncomputable def kR (k:Nat->Nat) (p:Array Nat) (i:Nat):Nat:=k ((p[i]?).getD 0)
noncomputable def yo (k:Nat->Nat) (p:Array Nat) (m:Nat):Prop:=∀i j,i<=j->j<m->kR k p i<=kR k p j
noncomputable def Fm (n:Nat) (p:Array Nat):Prop:=p.toList.Perm (eQ n)
variable {cm:Array Nat}
theorem Fm.size (h:Fm a cm):cm.size=a:=by rw [<-eB,h.length_eq,ff]
noncomputable def leB (es:List (Nat×Nat)) (b:Nat):Nat->Nat->Bool
 |0,a=>a==b
 |f+1,a=>a==b||es.any λe=>e.1==a&&leB es b f e.2
variable {aO:Nat->Nat}
theorem Ho {d:List (Nat×Nat)} (h:∀e∈d,aO e.1<=aO e.2):∀f c,leB d a f c=true->aO c<=aO a
 |0,c,q=>by rw [eq_of_beq q];exact eJ _
 |f+1,c,q=>((j1 _ _).mp q).elim (λq=>by rw [eq_of_beq q];exact eJ _) λq=>by
  refine eS (qc.mp q) λe g b=>?_
  have b:=(eV _ _).mp b
  rw [<-eq_of_beq b.1]
  exact a_ (h e g) (Ho h f _ b.2)
noncomputable def UO (n:Nat):KasT (Array Nat)->List (Nat×Nat)->List (Nat×Nat)->Bool
 | .ret p,es,ss=>(p.toList.isPerm (eQ n)&&(eQ (n -1)).all λj=>leB es ((p[j+1]?).getD 0) 4 ((p[j]?).getD 0))||ss.any λe=>leB es e.1 4 e.2
 | .ask i j f,es,ss=>decide (i<n)&&(decide (j<n)&&(UO n (f true) ((i,j)::es) ((i,j)::ss)&&UO n (f false) ((j,i)::es) ss))
theorem Mk (h:∀j,j+1<a->kR aO cm j<=kR aO cm (j+1)):yo aO cm a:=λi j d=>Nat.le.rec (motive:=λj _=>j<a->kR aO cm i<=kR aO cm j) (λ_=>eJ _) (λ_ c b=>a_ (c (pJ b)) (h _ b)) d
theorem Hp {r:Nat->Nat->(Bool->eL->Prop)->eL->Prop} (g:∀i j (C:Bool->eL->Prop),i<a->j<a->C (decide (aO i<aO j)) m->r i j C m) {Q:Array Nat->eL->Prop} (d:∀p,Fm a p->yo aO p a->Q p m):
 ∀t k n,(∀e∈k,aO e.1<=aO e.2)->(∀e∈n,aO e.1<aO e.2)->UO a t k n=true->t.kasWp r Q m
 | .ret p,k,n,c,l,h=>((j1 _ _).mp h).elim (λh=>by
  have h:=(eV _ _).mp h
  exact d p (List.isPerm_iff.mp h.1) (Mk λj u=>Ho c _ _ (k_.mp h.2 j (eU.mpr (Nat.lt_sub_of_add_lt u))))) λh=>by
  clear g d;refine eS (qc.mp h) λe s b=>?_
  exact absurd (Ho c _ _ b) (Nat.not_le_of_lt (l e s))
 | .ask i j f,k,n,c,l,h=>by
  have h:=(eV _ _).mp h
  have b:=(eV _ _).mp h.2
  have o:=(eV _ _).mp b.2
  refine g i j _ (of_decide_eq_true h.1) (of_decide_eq_true b.1) ?_
  clear h b;clear h;by_cases q:aO i<aO j
  .rw [decide_eq_true q]
   exact Hp g d (f true) _ _ (vH.mpr ⟨eA q,c⟩) (vH.mpr ⟨q,l⟩) o.1
  .rw [decide_eq_false q]
   exact Hp g d (f false) _ _ (vH.mpr ⟨iY.mp q,c⟩) l o.2
theorem Vz:∀n<6,UO n (kas_sort n) [] []=true:=by decide+kernel
theorem IL {b:Nat->Nat->(Bool->eL->Prop)->eL->Prop} (e:∀i j (C:Bool->eL->Prop),i<a->j<a->C (decide (aO i<aO j)) m->b i j C m) {Q:Array Nat->eL->Prop} (d:a<6) (c:∀p,Fm a p->yo aO p a->Q p m):(kas_sort a).kasWp b Q m:=
 Hp e c _ [] [] (Jw _) (Jw _) (Vz a d)
theorem Lt.ne (h:Lt l af):l≠af:=by
 induction h with
 |int h=>intro e;(injection e with e;subst e);exact absurd h (xY _)
 |tup p x y r s h a=>
  intro e
  injection e with e
  have:=List.append_cancel_left e
  exact a (fq this).1
 |len p y s=>
  intro e
  injection e with e
  have:=congrArg fj e
  simp at this
theorem Lt.irrefl (h:Lt l l):False:=h.ne rfl
open Mine.Lt renaming irrefl->Si
theorem tm:Lt (.tup (l::j)) (.tup (af::aN))↔Lt l af\/(l=af/\Lt (.tup j) (.tup aN)):=by
 constructor
 .intro h
  generalize a:AV.tup (l::j)=v at h
  generalize b:AV.tup (af::aN)=w at h
  induction h using Lt.casesOn with
  |int _=>contradiction
  |tup p x y r s h=>
   injection a with a;injection b with b
   induction p using el with
   |nil=>
    refine KV l j (fq a) ?_
    refine KV af aN (fq b) ?_
    exact .inl h
   |cons z p=>
    refine KV l j (fq a) ?_
    clear a;refine KV af aN (fq b) ?_
    exact .inr ⟨rfl,.tup p x y r s h⟩
  |len p y s=>
   injection a with a;injection b with b
   subst a
   refine KV af aN (fq b) ?_
   exact .inr ⟨rfl,.len j y s⟩
 .rintro (h |⟨rfl,h⟩)
  .exact .tup [] l af j aN h
  .generalize a:AV.tup j=v at h
   generalize b:AV.tup aN=w at h
   induction h using Lt.casesOn with
   |int _=>contradiction
   |tup p x y r s h=>
    injection a with a;injection b with b
    subst a b
    exact .tup (l::p) x y r s h
   |len p y s=>
    injection a with a;injection b with b
    subst a b
    exact .len (l::j) y s
theorem lt_nil_cons:Lt (.tup []) (.tup (l::j)):=.len [] l j
theorem not_lt_nil:¬Lt l (.tup []):=by
 intro h
 generalize a:AV.tup []=w at h
 induction h using Lt.casesOn with
 |int _=>contradiction
 |tup p l y r s h=>injection a with a;have:=congrArg fj a;simp at this
 |len p y s=>injection a with a;have:=congrArg fj a;simp at this
theorem lt_int:Lt (.int p) (.int aB)↔p<aB:=⟨λh=>by rcases h with ⟨⟩;assumption,.int⟩
theorem zc:∀(n:Nat) {a b c:AV},oO n a->Lt a b->Lt b c->Lt a c:=by
 intro n
 induction n with
 |zero=>
  intro a b c h e d
  cases h with
  |int _ i=>
   cases e with
   |int e=>cases d with |int d=>exact .int (zA e d)
 |succ n m=>
  intro a b c h e d
  cases h with
  |int _ i=>
   cases e with
   |int e=>cases d with |int d=>exact .int (zA e d)
  |tup _ j k=>
   obtain ⟨g,rfl⟩:∃g,b= .tup g:=by rcases e with ⟨⟩<;>exact ⟨_,rfl⟩
   obtain ⟨f,rfl⟩:∃f,c= .tup f:=by rcases d with ⟨⟩<;>exact ⟨_,rfl⟩
   induction j generalizing g f with
   |nil=>
    induction f using el with
    |nil=>exact absurd d not_lt_nil
    |cons z f=>exact lt_nil_cons
   |cons x j o=>
    induction g using el with
    |nil=>exact absurd e not_lt_nil
    |cons y g=>
     induction f using el with
     |nil=>exact absurd d not_lt_nil
     |cons z f=>
      rw [tm] at e d⊢
      rcases e with e |⟨rfl,e⟩
      .rcases d with d |⟨rfl,d⟩
       .exact .inl (m (k x (.head _)) e d)
       .exact .inl e
      .rcases d with d |⟨rfl,d⟩
       .exact .inl d
       .exact .inr ⟨rfl,o (λu l=>k u (.tail _ l)) _ e _ d⟩
theorem gW.symm (h:gW l af):gW af l:=by
 rcases h with h |h |h
 .exact .inr (.inr h)
 .exact .inr (.inl h.symm)
 .exact .inl h
theorem oM (h:gW (.tup (l::j)) (.tup (af::aN))):gW l af/\(l=af->gW (.tup j) (.tup aN)):=by
 rcases h with h |h |h
 .rcases tm.mp h with g |⟨rfl,g⟩
  .exact ⟨.inl g,λe=>absurd e g.ne⟩
  .exact ⟨.inr (.inl rfl),λ_=>.inl g⟩
 .injection h with h
  refine KV l j (fq h) ?_
  exact ⟨.inr (.inl rfl),λ_=>.inr (.inl rfl)⟩
 .rcases tm.mp h with g |⟨rfl,g⟩
  .exact ⟨.inr (.inr g),λe=>absurd e.symm g.ne⟩
  .exact ⟨.inr (.inl rfl),λ_=>.inr (.inr g)⟩
theorem IM (b:oO a l) (e:oO d af) (j:RV c m.heap J l) (k:RV c m.heap aT af) (f:L.units+a<vy) (h:cQ (decide (l=af)) m):gc (hU c.prog c.w) L (eqBool J aT) cQ aG m:=by
 refine j_ (jX b.plain j) λn g=>?_
 refine j_ (jX e.plain k) λo i=>?_
 refine eqBoolOverData _ _ _ _ _ _ _ _ _ _ _ _ g i (iu b.plain).1 (iu e.plain).1 ?_ ?_
 .have:=(iu b.plain).2
  exact c_ (d7 (a_ (g8 _ _) this) _) f
 .have d:mT (toPy l) (toPy af)=decide (l=af):=by
   have:=xe b.plain e.plain
   by_cases q:l=af
   .rw [decide_eq_true q];exact this.mpr q
   .rw [decide_eq_false q]
    induction z:mT (toPy l) (toPy af) with
    |false=>rfl
    |true=>exact absurd (this.mp z) q
  rw [d];exact h
theorem Rt {B:Base} {E:eH->eL->Prop}:∀(d:Nat) {A:jc} {s:eL} {v w:eH} {x y:AV} {Q:eH->eL->Prop},oO d x->oO d y->RV B s.heap v x->RV B s.heap w y->gW x y->A.units+10*d+10<vy->
 (∀c:Bool,(c=true↔Lt x y)->Q (.bool c) s)->gc (hU B.prog B.w) A (richCompare .Lt v w) Q E s:=by
 intro d
 induction d with
 |zero=>
  intro A s v w x y Q hx hy qv qw hc hu h
  cases hx with
  |int _ i=>
   cases hy with
   |int _ j=>
    refine rX v (gp qv) λt=>?_
    refine rX w (gp qw) λu=>?_
    exact Wg (h _ (by rw [decide_eq_true_iff];exact Mine.lt_int.symm))
 |succ d ih=>
  intro A s v w x y Q hx hy qv qw hc hu h
  cases hx with
  |int _ i=>
   cases hy with
   |int _ j=>
    refine rX v (gp qv) λt=>?_
    refine rX w (gp qw) λu=>?_
    exact Wg (h _ (by rw [decide_eq_true_iff];exact Mine.lt_int.symm))
   |tup _ ys hy=>
    clear ih hu qv hy qw h;rcases hc with hc |hc |hc<;>contradiction
  |tup _ xs hx=>
   cases hy with
   |int _ j=>clear ih hu hx qv qw h;rcases hc with hc |hc |hc<;>contradiction
   |tup _ ys hy=>
    refine g5 v (iB qv) λa xi n1 ea la ra=>?_
    refine g5 w (iB qw) λb yi n2 eb lb rb=>?_
    refine wpAny_richCompare_same_room (op:=.Lt) (oP ea) (oP eb) Er (ng Er (oP ea) YN ?_ (YQ _ _)) (by exact u0 hu)
    show gc _ _ (YE (.ref b) (.type "tuple")>>= _) _ _ s
    refine b5 (Sv (oP eb) N1 ?_)
    simp only [wO,fX,if_false]
    refine b5 (z8 ea rfl ?_)
    refine b5 (z8 eb rfl ?_)
    refine b5 ?_
    refine qP _
     (λrest r s'=>r.1=none/\s'=s/\∃vs ws us zs,rest=List.zip vs ws/\hX B s.heap vs us/\hX B s.heap ws zs/\(∀u∈us,oO d u)/\(∀u∈zs,oO d u)/\gW (.tup us) (.tup zs)/\(Lt (.tup us) (.tup zs)↔Lt (.tup xs) (.tup ys))/\
      (decide (xi.size<yi.size)=decide (vs.length<ws.length)))
     _ ?_ ?_ _ _ ⟨rfl,rfl,xi.toList,yi.toList,xs,ys,rfl,ra,rb,hx,hy,hc,Iff.rfl,(by simp)⟩
    .intro zr1 rest r s' zr2;obtain ⟨p,q⟩:=zr1;refine tP s' zr2 λhr vs ws us zs hz hv hw hu1 hz1 hcm hiff hlen=>?_
     induction hv using hX.casesOn with
     |nil=>simp at hz
     | @cons p' u' vs us h1 hv=>
      induction hw using hX.casesOn with
      |nil=>simp at hz
      | @cons q' z' ws zs h2 hw=>
       simp only [pa,ix,BI] at hz
       refine Va rest hz λzz1=>?_;refine KV p q zz1 ?_
       refine iK (oM hcm) λc1 c2=>?_
       refine b5 (IM (hu1 u' (.head _)) (hz1 z' (.head _)) h1 h2 (by show A.units+1+d<vy;exact u2 hu) ?_)
       by_cases he:u'=z'
       .clear ih hu hx hy hc la lb hr qv ea ra qw eb rb hcm h1 h2 c1;subst he
        rw [decide_eq_true rfl]
        simp only [wO,fX,if_false]
        refine dk ⟨rfl,rfl,vs,ws,us,zs,rfl,hv,hw,(λz hz=>hu1 z (.tail _ hz)),(λz hz=>hz1 z (.tail _ hz)),(c2 rfl),?_,(by simpa using hlen)⟩
        rw [<-hiff,tm]
        exact ⟨λh=>.inr ⟨rfl,h⟩,λh=>h.elim (λh=>h.irrefl.elim) λh=>h.2⟩
       .rw [decide_eq_false he]
        simp only [Bool.not_false,if_true]
        refine b5 (nF ?_)
        refine b5 (ih (hu1 u' (.head _)) (hz1 z' (.head _)) h1 h2 c1 (by show A.units+1+10*d+10<vy;exact u1 hu) λc hcz=>?_)
        refine b5 (dk (dk (dk (gr _ rfl (by (repeat intro _);contradiction) (h c ?_)))))
        rw [hcz,<-hiff,tm]
        exact ⟨.inl,λh=>h.elim id λh=>absurd h.1 he⟩
    .intro zr3 s' zr4;obtain ⟨r1,r2⟩:=zr3;refine tP s' zr4 λhr vs ws us zs hz hv hw hu1 hz1 hcm hiff hlen=>?_
     simp only at hr
     clear zr4;subst hr
     show gc _ _ (ret (.bool (decide (xi.size<yi.size)))) _ _ _
     rw [hlen]
     refine dk (gr _ rfl (by (repeat intro _);contradiction) (h _ ?_))
     rw [<-hiff,decide_eq_true_iff]
     clear ih hu hx hy hc la lb qv ea ra qw eb rb hu1 hz1 hcm hiff hlen;induction hv using hX.casesOn with
     |nil=>
      clear hz;induction hw using hX.casesOn with
      |nil=>exact ⟨λh=>absurd h (jg _),λh=>absurd h not_lt_nil⟩
      |cons _ _=>exact ⟨λ_=>lt_nil_cons,λ_=>fB _⟩
     |cons _ _=>
      induction hw using hX.casesOn with
      |nil=>exact ⟨λh=>absurd h (o_ _),λh=>absurd h not_lt_nil⟩
      |cons _ _=>simp at hz
theorem Ol (h:a<6):a<=sizeLine:=a_ (eA h) (by rw [nD];decide)
theorem TL (h:I<6) (b:d<I) (e:a=min d o):a<=sizeLine:=n1 e (a_ (g8 _ _) (eA (ei b (Ol h))))
theorem vM.trans (x:vM z m ae) (y:vM z ae aZ):vM z m aZ:=⟨λb o a e=>y.keep b o a (x.keep b o a e),y.gens.trans x.gens,y.os.trans x.os⟩
noncomputable def Ml (B:Base) (A:jc) (a:gY) (ks:List eH) (k:Nat->Nat) (s:eL):Prop:=
 2<=ks.length->∀s',vM a s s'->gc (hU B.prog B.w) A (keyKind' ks.toArray) (λκ s''=>s''=s'/\∀i j (C:Bool->eL->Prop),i<ks.length->j<ks.length->C (decide (k i<k j)) s'->Se B.prog B.w A κ ks i j C s') (λ_ _=>False) s'
theorem DH {P:Um->eL->Prop} (r:m.heap.get? z=some (gu "list" aj.toArray a)) (t:aj.length<6) (D:Ml c L z aj aO m) (h:∀(d:Array Nat) g km,Fm aj.length d->yo aO d aj.length->vM z m g->g.heap.get? z=some (listOf (jf (d.toList.map λi=>aj.getD i jn)) km)->P (.done (.ret .none)) g):
 gc (hU c.prog c.w) L (vX.«list.sort» ⟨[.ref z],[]⟩) P aG m:=by
 have N:z<m.heap.objs.size:=rq r
 have O:=nD
 obtain ⟨s,x⟩:∃s,(m.heap.update z (fK λ_=>(#[]:Array eH))).get? z=some (gu "list" #[] s):=oK _ (rU r λ_=>#[])
 have A:=gK m.heap z (fK λ_=>(#[]:Array eH))
 rw [list_sort_plain]
 refine b5 (K9 r rfl ?_)
 refine b5 (rr r rfl ?_ (by rw [j4];exact Ol t) (fy _))
 refine b5 (Eu x rfl ?_)
 refine b5 (UU ?_ (by show aj.length<=_;exact Ol t))
 refine b5 (zL ?_ (fy _))
 refine f6 ?_
 show gc _ L _ P aG {m with heap:=((m.heap.update z (fK λ_=>(#[]:Array eH))).push (gu "tuple" aj.toArray 0)).push (gu "list" #[] 0)}
 have B:(((m.heap.update z (fK λ_=>(#[]:Array eH))).push (gu "tuple" aj.toArray 0)).push (gu "list" #[] 0)).get? z=some (gu "list" #[] s):=fo _ (fo _ x)
 have n:vM z m {m with heap:=((m.heap.update z (fK λ_=>(#[]:Array eH))).push (gu "tuple" aj.toArray 0)).push (gu "list" #[] 0)}:=
  ⟨λb o n e=>fo _ (fo _ ((A.2 b n).trans e)),rfl,rfl⟩
 generalize F:({m with heap:=((m.heap.update z (fK λ_=>(#[]:Array eH))).push (gu "tuple" aj.toArray 0)).push (gu "list" #[] 0)}:eL)=u at n⊢
 have w:u.heap.get? z=some (gu "list" #[] s):=by rw [<-F];exact B
 dsimp only
 have E:∀(d:Array Nat) k,Fm aj.length d->yo aO d aj.length->k=u->gc (hU c.prog c.w) L (do
  let X:=(<-seqEpoch z)!=s
  Un (.ref z) λ_=>jf (d.toList.map λi=>aj.getD i jn)
  if X then rule "list.sort.modified";raiseError "ValueError" "list modified during sort"
  ret .none) P aG k:=by
  intro d k l q S;subst S
  have kl:(jf (d.toList.map λi=>aj.getD i jn)).size=aj.length:=by rw [j4,bb,eB,l.size]
  refine b5 (Eu w rfl ?_)
  refine b5 (rr w rfl ?_ (fy _) (a_ (gv kl) (by exact fZ (Ol t))))
  simp only [bne_self_eq_false,fX,if_false]
  have I:=gK k.heap z (fK λ_=>jf (d.toList.map λi=>aj.getD i jn))
  exact dk (h d _ _ l q (n.trans (yn I)) (rU w λ_=>jf (d.toList.map λi=>aj.getD i jn)))
 by_cases f:aj.toArray.size<2
 .rw [if_pos f,if_pos f]
  refine b5 (dk ?_)
  rw [StateT.run_pure]
  refine b5 (dk ?_)
  have f:aj.length<2:=by simpa using f
  have:=E (eQ aj.length).toArray u (by unfold Fm;simp) (λi j V Y=>by rw [show i=j by exact V1 f V Y];exact eJ _) rfl
  have e:jf ((eQ aj.length).toArray.toList.map λi=>aj.getD i jn)=(aj.toArray.zip aj.toArray).map (·.2):=by
   refine (Ow (ks:=aj) (st:=SortSt.mk' general' (aj.toArray.zip aj.toArray) #[] 7 none) (p:=(eQ aj.length).toArray) rfl ?_).symm
   have e:=kas_range (aj.toArray.zip aj.toArray)
   rw [show (aj.toArray.zip aj.toArray).size=aj.length by simp] at e
   exact e.symm
  rw [e] at this
  exact this
 .rw [if_neg f,if_neg f]
  have f:2<=aj.length:=by simpa using f
  refine b5 (er (D f u n) (λκ k C=>?_) λ_ _ e=>e.elim)
  clear r D h N O x A B F n w;refine iK C λT U=>?_
  clear C;subst T
  refine b5 (er (kat_run (ks:=aj) (vs:=aj) (Q:=λv g=>∃d,Fm aj.length d/\yo aO d aj.length/\arrOf v=d.map (kas_item (aj.toArray.zip aj.toArray))/\U7 v=none/\g=k) (G:=λd g=>Fm aj.length d/\yo aO d aj.length/\g=k) rfl f (ei t (by decide))
   (λd v g _ M W y=>⟨d,y.1,y.2.1,M,W,y.2.2⟩) (IL U (by exact t) λd l q=>(iz l q rfl))) ?_ λ_ _ e=>e)
  intro H g Z;obtain ⟨⟨⟩,v⟩:=H;refine zS Z λd l q K J R=>?_
  dsimp only
  rw [Ow rfl K,J]
  exact E d g l q R
open Classical in
noncomputable def rk (xs:List AV) (i:Nat):Nat:=(eQ xs.length).countP λt=>decide (Lt (xs.getD t .none) (xs.getD i .none))
variable {e9:h->Bool}
theorem JZ {q:h->Bool} (d:∀x∈dq,e9 x=true->q x=true) (a:dp∈dq) (f:e9 dp=false) (j:q dp=true):dq.countP e9<dq.countP q:=by
 induction dq with
 |nil=>exact (eg a).elim
 |cons x r g=>
  have i:r.countP e9<=r.countP q:=List.countP_mono_left λy b=>d y (.tail _ b)
  rcases eK.mp a with rfl |a
  .rw [tN (by rw [f];simp),pf j]
   exact Nat.lt_succ_of_le i
  .have:=g (λy b=>d y (.tail _ b)) a
   by_cases c:e9 x=true
   .rw [pf c,pf (d x (.head _) c)];exact qD this 1
   .rw [tN c]
    by_cases e:q x=true
    .rw [pf e];exact Ac 1 this
    .rw [tN e];exact this
theorem jY (b:a<dq.length):dq.getD a dp=dq[a]:=by simp [b]
theorem Qw (l:∀x∈j,oO a x) (g:j.Pairwise gW) (b:d<j.length) (c:o<j.length):rk j d<rk j o↔Lt (j.getD d .none) (j.getD o .none):=by
 classical
 have i:∀{d o},d<j.length->o<j.length->Lt (j.getD d .none) (j.getD o .none)->rk j d<rk j o:=λ{d o} b c h=>by
  refine JZ (dp:=d) (λt e f=>?_) (eU.mpr b) ?_ ?_
  .have e:=eU.mp e
   rw [decide_eq_true_iff] at f⊢
   exact zc a (by rw [jY e];exact l _ (fO _)) f h
  .rw [decide_eq_false_iff_not];exact Si
  .rw [decide_eq_true_iff];exact h
 refine ⟨λh=>?_,i b c⟩
 have k:gW (j.getD d .none) (j.getD o .none):=by
  rw [jY b,jY c]
  rcases zx d o with q |q |q
  .exact oA.mp g d o b c q
  .subst q;exact .inr (.inl rfl)
  .exact (oA.mp g o d c b q).symm
 rcases k with q |q |q
 .exact q
 .exfalso
  have:rk j d=rk j o:=by unfold rk;rw [q]
  exact rx h this
 .have:=i c b q
  exact absurd h (Nat.lt_asymm this)
theorem CB {B:Base} {s:eL} {A:jc} {d:Nat} {b fin:Bool} (hu:A.units+10*d+10<vy):∀{vs ws:List eH} {us zs:List AV} {i:Nat} {Q:Bool->eL->Prop},hX B s.heap vs us->hX B s.heap ws zs->(∀u∈us,oO d u)->(∀u∈zs,oO d u)->gW (.tup us) (.tup zs)->
 (b=true->i=0->∀u z us' zs',us=u::us'->zs=z::zs'->(∃n,u= .int n)/\∃n,z= .int n)->(fin=decide (vs.length<ws.length))->(∀c:Bool,(c=true↔Lt (.tup us) (.tup zs))->Q c s)->KatLex B.prog B.w A b fin Q (vs.zip ws) i s
 |[],[],us,zs,i,Q,hv,hw,h1,h2,hc,hb,hf,h=>by
  clear hu h1 h2 hc hb;cases hv;cases hw;subst hf
  exact h _ ⟨λh=>by simp at h,λh=>absurd h not_lt_nil⟩
 |[],w::ws,us,zs,i,Q,hv,hw,h1,h2,hc,hb,hf,h=>by
  clear hu h1 h2 hc hb;cases hv;cases hw;clear a a_1;subst hf
  exact h _ ⟨λ_=>lt_nil_cons,λ_=>by simp⟩
 |v::vs,[],us,zs,i,Q,hv,hw,h1,h2,hc,hb,hf,h=>by
  clear hu h1 h2 hc hb;cases hv;clear a a_1;cases hw;subst hf
  exact h _ ⟨λh=>by simp at h,λh=>absurd h not_lt_nil⟩
 |v::vs,w::ws,us,zs,i,Q,hv,hw,h1,h2,hc,hb,hf,h=>by
  cases hv with
  | @cons _ u _ us q1 hv=>
   cases hw with
   | @cons _ z _ zs q2 hw=>
    refine iK (oM hc) λc1 c2=>?_
    show KatLex B.prog B.w A b fin Q ((v,w)::vs.zip ws) i s
    refine kat_cons (IM (h1 u (.head _)) (h2 z (.head _)) q1 q2 (by exact u3 hu) ?_)
    by_cases he:u=z
    .clear q1 q2 hc hb c1;subst he
     rw [decide_eq_true rfl]
     refine kat_yes (CB hu hv hw (λy hy=>h1 y (.tail _ hy)) (λy hy=>h2 y (.tail _ hy)) (c2 rfl) (λ_ h0=>absurd h0 (tV _)) (by simpa using hf) λc hcz=>h c ?_)
     rw [hcz,tm]
     exact ⟨λh=>.inr ⟨rfl,h⟩,λh=>h.elim (λh=>h.irrefl.elim) λh=>h.2⟩
    .rw [decide_eq_false he]
     have hlt:∀c:Bool,(c=true↔Lt u z)->Q c s:=λc hcz=>h c (by
      rw [hcz,tm]
      exact ⟨.inl,λh=>h.elim id λh=>absurd h.1 he⟩)
     refine kat_no ?_
     by_cases hbi:(b&&i==0)=true
     .rw [hbi]
      simp only [eV,beq_iff_eq] at hbi
      clear hu hf hv h1 hw h2 hc h c1 c2 he;refine iK (hb hbi.1 hbi.2 _ _ _ _ rfl rfl) λzz1 zz2=>?_;refine j_ zz1 λn zz1=>?_;subst zz1;refine j_ zz2 λn' zz1=>?_;clear zz2;subst zz1
      clear hbi hb;refine rX v (gp q1) λt=>?_
      clear q1;refine rX w (gp q2) λt'=>?_
      exact oneLt_int (hlt _ (by rw [decide_eq_true_iff];exact Mine.lt_int.symm))
     .rw [mK] at hbi
      rw [hbi]
      refine kat_one v w ?_
      exact Rt d (h1 u (.head _)) (h2 z (.head _)) q1 q2 c1 hu λc hcz=>hlt c hcz
theorem sD (q:hX c H aj j) (b:a<aj.length):RV c H (aj.getD a .none) (j.getD a .none):=by
 have d:=q.length
 rw [jY b,jY (by exact fC b d)]
 obtain ⟨v,e,r⟩:=q.get (i:=a) (x:=j[a]) (dj (by exact fC b d))
 rw [dj b] at e
 obtain rfl:=d5 e;exact r
theorem Mm (q:hX c H aj j) (o:∀s∈j,∃y d,s= .tup (y::d)):∃b,KatTups H aj b/\b.length=aj.length/\∀f∈b,∃y d,AV.tup (y::d)∈j/\RV c H f y:=by
 induction aj generalizing j with
 |nil=>cases q;exact gr [] trivial rfl (by (repeat intro _);contradiction)
 |cons k aj u=>
  cases q with
  | @cons _ s _ j q r=>
   obtain ⟨b,v,t,B⟩:=u r λy w=>o y (.tail _ w)
   refine qW (o s (.head _)) λy d A=>?_;subst A
   refine g5 k (iB q) λa G n e l p=>?_
   refine eS (p.get (i:=0) (x:=y) rfl) λf m E=>?_
   rw [gF] at m
   refine gr (f::b) (KatTups.cons e rfl rfl m v) (congrArg rV t) (λg h=>?_)
   clear u r v t o q e l p m;rcases eK.mp h with rfl |h
   .exact nB y d (.head _) E
   .refine i5 (B g h) λz D C F=>?_
    exact nB z D (.tail _ C) F
theorem Fn (h:j.Pairwise gW):∀x∈j,∀y∈j,gW x y:=by
 induction h with
 |nil=>intro x c;exact (eg c).elim
 | @cons a l e _ g=>
  intro x c y b
  rcases eK.mp c with f |c
  .rcases eK.mp b with d |b
   .exact .inr (.inl (f.trans d.symm))
   .rw [f];exact e y b
  .rcases eK.mp b with d |b
   .rw [d];exact (e x c).symm
   .exact g x c y b
theorem pP (h:qX j):∀x∈j,oO 4 x:=λx a=>by
 rcases h with h |h
 .refine rX x (h x a) λi=>?_;exact .int _ i
 .exact (h x a).1
theorem Fo {B:Base} {s:eL} {A:jc} {a:gY} {ks:List eH} {xs:List AV} (hu:A.units+60<vy) (q:hX B s.heap ks xs) (hs:qX xs) (hc:xs.Pairwise gW) (hf:∀o,s.heap.get? a=some o->¬f_ o):Ml B A a ks (rk xs) s:=λh2 s' hb=>by
 have q':hX B s'.heap ks xs:=q.but hb hf
 have hl:=q'.length
 have hk:=pP hs
 have fin:∀{i j:Nat} {c:Bool} {C:Bool->eL->Prop},i<ks.length->j<ks.length->C (decide (rk xs i<rk xs j)) s'->(c=true↔Lt (xs.getD i .none) (xs.getD j .none))->C c s':=λ{i j c C} hi hj h hcz=>by
  have:c=decide (rk xs i<rk xs j):=by
   rw [BE,hcz,decide_eq_true_iff]
   exact (Qw hk hc (by exact fC hi hl) (by exact fC hj hl)).symm
  rw [this];exact h
 rcases hs with hs |hs
 .refine kas_kind (T:=.type "int") h2 (λv hv=>?_) (by decide) (by decide) ⟨rfl,λi j C hi hj h=>?_⟩
  .clear hu q hc hf h2 hb hk fin;obtain ⟨i,hi,rfl⟩:=qR hv
   have:=sD q' hi
   rw [jY hi,jY (by exact fC hi hl)] at this
   clear q' hv;refine j_ (hs xs[i] (fO _)) λn hn=>?_
   rw [hn] at this
   refine j_ (gp this) λt ht=>?_
   rw [ht]
   exact ny rfl
  .unfold Se
   have r1:=sD q' hi
   have r2:=sD q' hj
   refine j_ (hs (xs.getD i .none) (by rw [jY (by exact fC hi hl)];exact fO _)) λn1 e1=>?_
   refine j_ (hs (xs.getD j .none) (by rw [jY (by exact fC hj hl)];exact fO _)) λn2 e2=>?_
   have hfin:=fin (c:=decide (n1<n2)) hi hj h (by rw [e1,e2,decide_eq_true_iff];exact Mine.lt_int.symm)
   rw [e1] at r1
   rw [e2] at r2
   refine j_ (gp r1) λt1 e1=>?_
   refine j_ (gp r2) λt2 e2=>?_
   rw [e1,e2,keyLt'_oneType]
   exact oneLt_int hfin
 .have hall:=Fn hc
  obtain ⟨fs,t1,t2,t3⟩:=Mm q' λx hx=>(hs x hx).2
  have kinds:(∀y ys,AV.tup (y::ys)∈xs->∃n,y= .int n)\/(∀y ys,AV.tup (y::ys)∈xs->∃ws,y= .tup ws):=by
   refine Cb (hs (xs[0]'(by exact fC (pJ h2) hl)) (fO _)) λhk0 y0 ys0 e0=>?_
   have h0:AV.tup (y0::ys0)∈xs:=e0▸fO _
   have hd:oO 3 y0:=by
    rw [e0] at hk0
    cases hk0 with
    |tup _ _ hx=>exact hx y0 (.head _)
   cases hd with
   |int _ i=>
    refine .inl λy ys hy=>?_
    have c:=(oM (hall _ h0 _ hy)).1
    clear hu q hc hf h2 hb q' hl hk fin hs hall t1 t2 t3 hk0 e0 h0 hy;rcases c with c |c |c
    .rcases c with ⟨⟩;exact ⟨_,rfl⟩
    .exact ⟨_,c.symm⟩
    .rcases c with ⟨⟩;exact ⟨_,rfl⟩
   |tup _ us _=>
    refine .inr λy ys hy=>?_
    have c:=(oM (hall _ h0 _ hy)).1
    clear hu q hc hf h2 hb q' hl hk fin hs hall t1 t2 t3 hk0 e0 h0 hy;clear a_1;rcases c with c |c |c
    .rcases c with ⟨⟩<;>exact ⟨_,rfl⟩
    .exact ⟨_,c.symm⟩
    .cases c<;>exact ⟨_,rfl⟩
  have ask:∀(b:Bool),(b=true->∀y ys,AV.tup (y::ys)∈xs->∃n,y= .int n)->∀i j (C:Bool->eL->Prop),i<ks.length->j<ks.length->C (decide (rk xs i<rk xs j)) s'->Se B.prog B.w A (tuples' b) ks i j C s':=λb hb i j C hi hj h=>by
   unfold Se
   have m1:xs.getD i .none∈xs:=by rw [jY (by exact fC hi hl)];exact fO _
   have m2:xs.getD j .none∈xs:=by rw [jY (by exact fC hj hl)];exact fO _
   have r1:=sD q' hi
   have r2:=sD q' hj
   have hcm:=hall _ m1 _ m2
   have hfin:=λc=>fin (c:=c) hi hj h
   refine Cb (hs _ m1) λk1 y1 ys1 e1=>?_
   refine Cb (hs _ m2) λk2 y2 ys2 e2=>?_
   rw [e1] at k1 m1
   rw [e2] at k2 m2
   rw [e1,e2] at hfin hcm
   rw [e1] at r1
   rw [e2] at r2
   refine mX (iB r1) λa1 i1 n1 v1 o1 _ p1=>?_
   refine mX (iB r2) λa2 i2 n2 v2 o2 _ p2=>?_
   rw [v1,v2]
   cases k1 with
   |tup _ _ k1=>
    cases k2 with
    |tup _ _ k2=>
     refine kat_lt o1 rfl o2 rfl (CB (d:=3) (by exact ul 40 hu rfl) p1 p2 k1 k2 hcm (λhb' _ u z us' zs' eu ez=>?_) (by simp) hfin)
     obtain ⟨rfl,rfl⟩:=fq eu
     obtain ⟨rfl,rfl⟩:=fq ez
     exact ⟨hb hb' _ _ m1,hb hb' _ _ m2⟩
  rcases kinds with hi |ht
  .refine kat_kind (T:=.type "int") t1 (by exact EO (pJ h2) t2) (λv hv=>?_) (by decide) ⟨rfl,ask _ λ_=>hi⟩
   refine i5 (t3 v hv) λy ys hy p=>?_
   refine j_ (hi y ys hy) λn zz1=>?_;subst zz1
   refine rX v (gp p) λt=>?_
   exact ny rfl
  .refine kat_kind (T:=.type "tuple") t1 (by exact EO (pJ h2) t2) (λv hv=>?_) (by decide) ⟨rfl,ask _ λh=>absurd h (by decide)⟩
   refine i5 (t3 v hv) λy ys hy p=>?_
   refine j_ (ht y ys hy) λus zz1=>?_;subst zz1
   refine g5 v (iB p) λa1 i1 n1 o1 _ _=>?_
   exact (Looks.ld o1).andThen .now
theorem r_ {r:AV->AV->Prop} (g:∀a b,r a b->r b a->a=b):∀{f d:List AV},f.Perm d->f.Pairwise r->d.Pairwise r->f=d
 |[],d,c,_,_=>by rw [c.nil_eq]
 |x::f,[],c,_,_=>by have:=c.length_eq;simp at this
 |x::f,y::d,c,h,i=>by
  have e:x=y:=by
   rcases eK.mp (c.mem_iff.mp (.head _)) with e |k
   .exact e
   .rcases eK.mp (c.mem_iff.mpr (.head _)) with e |j
    .exact e.symm
    .exact g x y ((jb.mp h).1 y j) ((jb.mp i).1 x k)
  subst e
  rw [r_ g ((List.perm_cons x).mp c) (jb.mp h).2 (jb.mp i).2]
theorem CC (b:Fm aj.length cm) (d:dq.length=aj.length):(cm.toList.map λi=>dq.getD i dp).Perm dq:=by
 have a:(cm.toList.map λi=>dq.getD i dp).Perm ((eQ aj.length).map λi=>dq.getD i dp):=b.map _
 refine a.trans (Wz ?_)
 apply List.ext_getElem
 .simp [d]
 .intro i a c
  simp [c]
theorem zd (l:j.length=a) (h:Fm a cm) (v:yo (rk j) cm a) (z:∀c∈j,oO d c) (s:j.Pairwise gW):
 (cm.toList.map λi=>j.getD i .none).Pairwise λt b=>Lt t b\/t=b:=by
 rw [oA]
 intro i k A C B
 rw [zM,zM]
 have f:cm.toList.length=a:=by rw [eB,h.size]
 have n:i<a:=by simpa [f,h.size] using A
 have m:k<a:=by simpa [f,h.size] using C
 have p:∀{c} (g:c<cm.toList.length),cm.toList[c]<a:=λg=>eU.mp (h.mem_iff.mp (fO g))
 have o:=v i k (eA B) m
 have e:∀{c} (g:c<a),kR (rk j) cm c=rk j (cm.toList[c]'(by exact EO g f)):=λ{c} g=>by
  unfold kR
  rw [<-gF,dj (by exact EO g f)];rfl
 rw [e n,e m] at o
 have r:=p (c:=i) (by exact EO n f)
 have u:=p (c:=k) (by exact EO m f)
 have w:=Fn s (j.getD (cm.toList[i]'(by exact EO n f)) .none) (by rw [jY (by exact EO r l)];exact fO _) (j.getD (cm.toList[k]'(by exact EO m f)) .none) (by rw [jY (by exact EO u l)];exact fO _)
 rcases w with q |q |q
 .exact .inl q
 .exact .inr q
 .have:=(Qw z s (by exact EO u l) (by exact EO r l)).mpr q
  exact absurd o (x8.mpr this)
theorem xq (d:oO a l) (b:Lt l af\/l=af) (c:Lt af l\/af=l):l=af:=by
 rcases b with b |b
 .rcases c with c |c
  .exact ((zc a d b c).irrefl).elim
  .exact c.symm
 .exact b
theorem Fp (d:aj.length=j.length) (q:∀i,i<aj.length->RV c H (aj.getD i .none) (j.getD i .none)):hX c H aj j:=by
 induction aj generalizing j with
 |nil=>clear q;induction j using el with
  |nil=>exact .nil
  |cons _ _=>contradiction
 |cons v aj a=>
  induction j using el with
  |nil=>contradiction
  |cons x j=>exact .cons (q 0 (by simp)) (a (by simpa using d) λi b=>q (i+1) (by simpa using b))
theorem Fq (q:hX c H aj j) (a:∀i∈C,i<aj.length):hX c H (C.map λi=>aj.getD i .none) (C.map λi=>j.getD i .none):=by
 induction C with
 |nil=>exact .nil
 |cons i C b=>exact .cons (sD q (a i (.head _))) (b λe d=>a e (.tail _ d))
theorem vP (M:gV c) (O:L.handled=none) (r:R c b m) (y:RV c m.heap J l) (h:ph b cW l) {Q:List eH->eL->Prop} (v:∀A o z,fI m z->hX c z.heap A o->cW o->A.length<=fF->Q A z):gc (hU c.prog c.w) L (collect J) Q aG m:=by
 induction h with
 | @tup o h=>
  refine g5 J (iB y) λa S k e f q=>?_
  refine R6 a (.inr rfl) e rfl rfl (λp j=>?_) (a_ f hY)
  have g:fI m {m with heap:=p}:=qx j
  exact v _ o _ g (q.grow g) h (by rw [eB];exact f)
 | @list a o e h=>
  obtain rfl:=gN y
  refine gq (r.isList e) λV k g q f U C=>?_
  refine R6 a (.inl rfl) g rfl rfl (λp j=>?_) (a_ (by exact n1 C f) hY)
  have g:fI m {m with heap:=p}:=qx j
  exact v _ o _ g (q.grow g) h (by rw [eB,C];exact f)
 | @dict a u e n h=>
  obtain rfl:=gN y
  refine iK (r.oQ e) λd f=>?_
  refine gj (d.GN n) λw G q D=>?_
  have E:w.length=u.length:=by have:=congrArg fj D;simpa using this.symm
  refine kdu_collect (kdl_dict (knd:=t7 c) (kvs:=w) (ep:=w.length) (r.uA M e)) O G (a_ (by exact n1 E f) hY) λp I x j B=>?_
  have g:fI m {m with heap:=p,toks:=I}:=qx j
  have s:x.toList.length=(u.map (·.1)).length:=by rw [eB,B.1,E,bb]
  refine v _ (u.map (·.1)) _ g (Fp s λi n=>?_) h (by rw [s,bb];exact f)
  have K:i<x.size:=by simpa using n
  obtain ⟨H,T,N,j⟩:=B.2 i x[i] (ox K)
  refine j_ (int_is j) λt P=>?_
  rw [jY n,jY (by exact fC n s),Array.getElem_toList,P]
  have F:(u.map (·.1))[i]? =some (.int H):=by rw [D,ee,N];rfl
  rw [dj (by exact fC n s)] at F
  rw [d5 F]
  exact .int _ _
theorem J0 (HB:gV c):zE c 1:=λH ku st Q g s h L N W=>by
 replace h:=qG h;obtain ⟨x,rfl,h⟩:=h
 refine jj g W.one λv Z=>?_
 have P:=L.Ax
 refine Calls.call_function_entry Yz Ww Wx (args_sorted1 _) ?_
 unfold vX.«sorted»
 refine b5 (m:=YF "sorted" 1 1 _) (dk ?_)
 refine b5 (vP (L:=H.in1) HB L.handled N Z h λg K f k u hx hl=>?_)
 refine Lh hx λy E J I km=>mW km λC kl R=>?_
 have n:=u.length
 have kq:=nD
 refine b5 (zL ?_ (by exact n1 n (Ol y)))
 have l:=jw f (listOf g.toArray 0)
 show gc _ _ _ _ _ {f with heap:=f.heap.push (listOf g.toArray 0)}
 have w:({f with heap:=f.heap.push (listOf g.toArray 0)}:eL).heap.get? f.heap.objs.size=some (gu "list" g.toArray 0):=eW _ rfl
 have F:∀j,({f with heap:=f.heap.push (listOf g.toArray 0)}:eL).heap.get? f.heap.objs.size=some j->¬f_ j:=λj e=>by rw [w] at e;obtain rfl:=d5 e;exact qF _ _
 refine b5 (f6 (ng U5 (ej _ w rfl) UB ?_ (args_list_sort _)))
 refine DH w (by exact S9 n y) (Fo (by show H.units+1+1+60<vy;exact ul 62 P rfl) (u.grow l) E J F) λp U kx B kn t S=>ej _ rfl ?_
 refine dk (ej _ rfl ?_)
 have D:=pP E
 have e:(p.toList.map λi=>K.getD i .none)=I:=by
  have G:=CC B (dp:=AV.none) (dq:=K) (by exact n.symm)
  refine r_ (r:=λa b=>(Lt a b\/a=b)/\oO 4 a) (λa b M T=>xq M.2 M.1 T.1) (G.trans C.symm) ?_ ?_
  .exact (zd (by exact n.symm) B kn D J).imp_of_mem λz _ h=>⟨h,D _ (G.mem_iff.mp z)⟩
  .exact kl.imp_of_mem λz _ h=>⟨h,D _ (C.mem_iff.mp z)⟩
 have Y:fI s U:=⟨λb j O=>t.keep b j (λq=>by
  subst q
  have:=k.keep _ _ O
  rw [ik] at this;contradiction) (l.keep _ _ (k.keep _ _ O)),(t.gens.trans l.gens).trans k.gens,(t.os.trans l.os).trans k.os⟩
 have X:s.heap.get? f.heap.objs.size=none:=by
  induction e:s.heap.get? f.heap.objs.size using d_ with
  |none=>rfl
  |some j=>have:=k.keep _ _ e;rw [ik] at this;contradiction
 refine uE (ay:=.list I) N Y X (.list S ?_ ?_) (by (repeat intro _);contradiction) R
 .rw [<-e]
  exact Fq ((u.grow l).but t F) λi V=>eU.mp (B.mem_iff.mp V)
 .rw [C.length_eq];unfold fF;exact a_ (eA y) (by decide)
theorem AF (b:bB.Nodup) (h:bB[a]? =some ao):(bB.zip aj).lookup ao=aj[a]? :=by
 induction bB generalizing aj a with
 |nil=>contradiction
 |cons y bB c=>
  induction aj using el with
  |nil=>simp
  |cons v aj=>
   rw [eT] at b
   induction a using ji with
   |zero=>clear c b;(injection h with h;subst h);simp
   |succ a=>
    have h:bB[a]? =some ao:=h
    have d:ao≠y:=λe=>b.1 (e▸(fi h))
    rw [pa,eM,beq_false_of_ne d]
    exact c b.2 h
theorem lookup_append_none {c:List (j7×h)} (a:e8.lookup ao=none):(e8++c).lookup ao=c.lookup ao:=by
 induction e8 with
 |nil=>rfl
 |cons p e8 d=>
  obtain ⟨y,v⟩:=p
  rw [eM] at a
  rw [iI,eM]
  induction b:ao==y with
  |true=>rw [b] at a;contradiction
  |false=>rw [b] at a;exact d a
theorem wd {d:List (j7×h)} (a:e8.lookup ao=some dp):(e8++d).lookup ao=some dp:=by
 induction e8 with
 |nil=>contradiction
 |cons p e8 c=>
  obtain ⟨y,w⟩:=p
  rw [eM] at a
  rw [iI,eM]
  induction b:ao==y with
  |true=>rw [b] at a;exact a
  |false=>rw [b] at a;exact c a
theorem yp (f:bB.Nodup) (e:aj.length=bB.length) {a:List (j7×eH)} (b:∀(i:Nat) x,bB[i]? =some x->a.lookup x=aj[i]?):bB.filterMap (λn=>(a.lookup n).map (n,·))=bB.zip aj:=by
 induction bB generalizing aj with
 |nil=>rfl
 |cons x bB g=>
  induction aj using el with
  |nil=>contradiction
  |cons v aj=>
   have c:=b 0 x rfl
   simp only [tL] at c
   rw [qS,c]
   show (x,v)::_=(x,v)::_
   rw [g (eT.mp f).2 (by simpa using e) λi y d=>b (i+1) y (by simpa using d)]
   rfl
noncomputable def CD (n:Nat) (vs ds:List eH):List Value:=vs++ds.drop (vs.length+ds.length -n)
variable {cZ:GW} {d4:List Arg}
theorem IP {a:List eH} {Q:List (j7×eH)->eL->Prop} (H:cZ.params=⟨[],d4,none,[],[],none,az⟩) (u:(argNames d4).Nodup) (N:∀{S:Option (Array eH)->eL->Prop},(∀o,(o.getD #[]).toList=a->S o m)->gc (hU c.prog c.w) L (seqItems? cZ.defaults) S aG m) (b:aj.length<=d4.length) (g:d4.length<=aj.length+a.length) (D:a.length<=d4.length) (h:Q ((argNames d4).zip (CD d4.length aj a)) m):gc (hU c.prog c.w) L (PySem.bindArgs cZ ⟨aj,[]⟩) Q aG m:=by
 have C:d4.map (·.arg)=argNames d4:=rfl
 have l:(argNames d4).length=d4.length:=bb _
 rcases cZ with ⟨_,_,ps,_,_,_,_,_,_,_,_,_,_,_,_⟩
 have H:ps=_:=H
 subst H
 refine b5 (dk (b5 (N λo E=>?_)))
 clear N
 refine nV (decide_eq_false λq=>iY.mpr b ?_) ?_
 .have q:=of_decide_eq_true ((qr.mp q).1)
  exact c_ (gv (bb _).symm) q
 have F:a.drop (a.length -d4.length)=a:=by rw [show a.length -d4.length=0 by exact vA D];rfl
 have I:SX (λn=>(pe n ((argNames d4).zip aj)).isNone) (U9 (d4.length -a.length) (argNames d4))=[]:=by
  rw [jA]
  intro x k
  obtain ⟨f,w,rfl⟩:=qR k
  have T:f<d4.length -a.length:=by rw [fS] at w;exact ei w (g8 _ _)
  rw [List.getElem_take,AF u (a:=f) (dj (by exact EO (ei T (jQ _ _)) l)),dj (by exact ei T (j8 g))]
  simp
 refine nV (decide_eq_false λq=>?_) ?_
 .have q:(!(SX (λn=>(pe n ((d4.map (·.arg)).zip aj)).isNone) (U9 ((d4.map (·.arg)).length - (v3 ((o.getD #[]).toList.length - (d4.map (·.arg)).length) (o.getD #[]).toList).length) (d4.map (·.arg)))).isEmpty)=true:=q
  rw [C,E,l,F,I] at q;contradiction
 refine b5 ?_
 refine qP _
  (λG slots B=>B=m/\∃j,d4.length -a.length<=j/\j<=d4.length/\G=((argNames d4).drop j).zip (a.drop (j - (d4.length -a.length)))/\
   ∀(f:Nat) x,(argNames d4)[f]? =some x->slots.lookup x=if f<aj.length then aj[f]? else if f<j then a[f - (d4.length -a.length)]? else none)
  _ ?_ ?_ _ _ (wR rfl (d4.length -a.length) (eJ _) (jQ _ _) (by show (v3 ((d4.map (·.arg)).length - (v3 ((o.getD #[]).toList.length - (d4.map (·.arg)).length) (o.getD #[]).toList).length) (d4.map (·.arg))).zip (v3 ((o.getD #[]).toList.length - (d4.map (·.arg)).length) (o.getD #[]).toList)=_;rewrite [C,E,l,F,jB,rF];rfl) (λf x k=>?_))
 .intro Y G slots B X;obtain ⟨x,d⟩:=Y;refine Ii B X λj s M p t=>?_
  have O:j<d4.length:=by
   rcases j' j d4.length with q |q
   .exact q
   .rw [pE (by exact le_of_eq_of_le l q)] at p;simp at p
  have k:(argNames d4)[j]? =some (argNames d4)[j]:=dj (by exact fC O (id (rG l)))
  have P:a[j - (d4.length -a.length)]? =some a[j - (d4.length -a.length)]:=dj (by exact bk D s O)
  rw [drop_cons k,drop_cons P,pa] at p
  refine iK (fq p) λV R=>?_
  refine KV x d (k7 V) ?_
  have z:=t j _ k
  have K:G=((argNames d4).drop (j+1)).zip (a.drop (j+1 - (d4.length -a.length))):=by rw [R,show j+1 - (d4.length -a.length)=j - (d4.length -a.length)+1 by exact OB s]
  by_cases A:j<aj.length
  .rw [if_pos A,dj A] at z
   refine nV (by rw [z];rfl) (dk (wR rfl (j+1) (by exact pL s) (by assumption) K (λf y r=>?_)))
   rw [t f y r]
   by_cases b:f<aj.length
   .rw [if_pos b,if_pos b]
   .rw [if_neg b,if_neg b]
    by_cases g:f<j
    .rw [if_pos g,if_pos (by exact Ac 1 g)]
    .rw [if_neg g,if_neg (by exact λq=>b (ei q A))]
  .rw [if_neg A,if_neg (jg _)] at z
   refine wpAny_ite_true (by rw [z];rfl) (dk (wR rfl (j+1) (by exact pL s) (by assumption) K (λf y r=>?_)))
   have w:=t f y r
   by_cases J:f=j
   .clear u b g C E F I h M t R p V K w;subst J
    rw [r] at k
    have kn:=d5 k
    rw [if_neg A,if_pos (fH _),kn,lookup_append_none z,P]
    simp
   .have km:y≠(argNames d4)[j]:=λe=>J ((iR (ew.mp r).1 u).mp (r.trans (by rw [e,k])))
    have kl:pe y [((argNames d4)[j],a[j - (d4.length -a.length)])]=none:=by rw [eM,beq_false_of_ne km];rfl
    have:(slots++[((argNames d4)[j],a[j - (d4.length -a.length)])]).lookup y=slots.lookup y:=by
     induction U:slots.lookup y with
     |none=>rw [lookup_append_none U,kl]
     |some v=>exact wd U
    rw [this,w]
    by_cases b:f<aj.length
    .rw [if_pos b,if_pos b]
    .rw [if_neg b,if_neg b]
     by_cases g:f<j
     .rw [if_pos g,if_pos (by exact Ac 1 g)]
     .rw [if_neg g,if_neg (by exact λq=>g (ni (eX q) J))]
 .clear E F I;intro slots B kq;refine Ii B kq λj s M p t=>?_
  have Z:j=d4.length:=by
   rcases j' j d4.length with q |q
   .rw [drop_cons (dj (by exact fC q (id (rG l)):j<(argNames d4).length)),drop_cons (dj (by exact bk D s q:j - (d4.length -a.length)<a.length)),pa] at p
    contradiction
   .exact ir M q
  refine b5 (dk (nV rfl (dk ?_)))
  show Q (vI (λn=>(pe n slots).map (n,·)) (d4.map (·.arg)++[])) m
  rewrite [eR,C,yp (aj:=CD d4.length aj a) u (by unfold CD;rw [bh,ey];exact WL b g l) λf x k=>?_]
  .exact h
  .have W:=(ew.mp k).1
   rw [t f x k]
   unfold CD
   by_cases b:f<aj.length
   .rw [if_pos b,eN b]
   .rw [if_neg b,if_pos (by exact EO (fC W l) Z),fk (by exact mN b),pb]
    congr 1;exact WM g D b
 .show pe x ((d4.map (·.arg)).zip aj)=_
  rw [C,AF u k]
  have W:=(ew.mp k).1
  by_cases b:f<aj.length
  .rw [if_pos b]
  .rw [if_neg b,if_neg (by exact λq=>b (ei q (j8 g))),i_ (by exact mN b)]
structure VA (B:Base) (k:Nat) (d:Def) (dv:List AV):Prop where
 obj:∃o fd,B.h₀.get? (B.fa k)=some o/\o.data= .func fd/\fd.params=d.params/\fd.body= .stmts d.body/\fd.scope=d.scope/\fd.globals=iD/\fd.closure=[]/\fd.builtins=j0/\
  B.h₀.CodeRec fd.code fd.qualname/\((fd.defaults= .none/\dv=[])\/∃t items n,fd.defaults= .ref t/\B.h₀.get? t=some (gu "tuple" items n)/\hX B B.h₀ items.toList dv)/\
  (BN d.scope.names=true->fd.code= .ref B.lc/\fd.qualname++(".<locals>.":j7)=B.EW)
 dl:dv.length<=d.params.args.length
structure TM (S:gn->List zt->w0->Prop) (d:Def) (F:mO) (as:List Arg) (dfl:List gf):Prop where
 par:d.params=⟨[],as,none,[],[],none,dfl⟩
 sc:Ao d.scope=true
 free:∀x,(x,fD)∉d.scope.names
 nd:(argNames as).Nodup
 st:(argNames as).map (om d.scope.names)=F.params.map some
 len:F.size=(slots d.scope.names).length
 body:S d.scope.names d.body F.body
noncomputable def AG (S:gn->List zt->w0->Prop) (B:Base):Prop:=∀k F,PG.fns[k]? =some F->F=noFn\/∃(d:Def) (as:List Arg) (dfl:List gf),TM S d F as dfl/\VA B k d F.Im
theorem ze:∀{j:List j7} {l:List Nat} {f:List eH} {a:List AV} {m:MM} {s:eL},j.map (om v)=l.map some->FR c ab v m b s->R c b s->hX c s.heap f a->a.length=l.length->
 ∀{Q:PUnit->eL->Prop},(∀e,FR c ab v (pF m l a) b e->R c b e->zF c ab v b s b e->Q ⟨⟩ e)->WE c L (forIn (j.zip f) BJ λ(x:j7×eH) (_:PUnit)=>do Sx ab x.1 x.2;pure (iN BJ)) Q s:=by
 intro u
 induction u with
 |nil=>
  intro l f a m s d F r q g Q h
  have:l=[]:=by simpa using d.symm
  clear d;subst this
  have:a=[]:=gU.mp g
  clear g;subst this;cases q
  exact dk (h s F r .refl)
 |cons x j z=>
  intro l f a m s d F r q g Q h
  induction l using el with
  |nil=>simp at d
  |cons i l=>
   simp only [eG,ix] at d
   induction a using el with
   |nil=>contradiction
   |cons y a=>
    cases q with
    | @cons D _ f _ p A=>
     rw [pa,qK]
     refine b5 (b5 (pO F r d.1 p λe k B n=>dk ?_))
     exact z d.2 k B (A.Cu r F n) (by simpa using g) λC t o w=>h C t o (n.trans k w)
theorem Hq {a:List j7} (h:Dq bB a=some C):a.map (r5 bB)=C.map some:=by
 induction a generalizing C with
 |nil=>(injection h with h;subst h);rfl
 |cons x r b=>
  refine eS (jh.mp h) λi c h=>?_
  refine iQ C (fW.mp h) λe d=>?_
  rw [eG,c,b d];rfl
theorem we (h:qY [] v=true):∀x,(x,fD)∉v:=λx a=>by
 rcases uG h x a with h |h<;>contradiction
theorem DI (c:(v.map (·.1)).Nodup) (d:∀ao,(ao,fD)∉v) (h:r5 (slots v) ao=some a):om v ao=some a:=by
 refine eS (He (fi (pj h)) c) λk b f=>?_
 unfold om
 rw [b]
 have e:Qr k=true:=by
  induction k with
  |«local»=>rfl
  |cell=>rfl
  |free=>exact absurd ((jT c).mp b) (d ao)
  |_=>contradiction
 simp only [e,if_true]
 exact h
theorem DJ (d:Ao aJ=true) (f:∀x,(x,fD)∉aJ.names) (e:Dq (slots aJ.names) (argNames d4)=some C):(argNames d4).map (om aJ.names)=C.map some:=by
 refine qk (q6 d) λ_ _ _ g _=>?_
 have b:=Hq e
 rw [<-b]
 apply fm
 intro x h
 have c:r5 (slots aJ.names) x∈(argNames d4).map (r5 (slots aJ.names)):=ck.mpr (ej x h rfl)
 rw [b] at c
 refine eS (ck.mp c) λi _ a=>?_
 rw [<-a]
 exact DI g f a.symm
theorem zg (d:gV c) (r:R c b m):m.heap.NoLimit:=eS d.nolimit λa e h=>(ej a (e.keeps r.old) h)
theorem mP.deeper (b:mP (a+1) L) (c:zv):mP a (L.deeper c):=⟨by
 have:=b.depth
 show L.depth+1+10*a<=900
 exact rm this rfl,by have:=b.units;show L.units+3+100*a<=9000;exact rm this rfl,b.handled⟩
variable {i:Ak}
theorem Pe (a:bindArgs noFn j=some e) (h:jo PG i noFn.body e b ag):False:=by
 refine iK (Lu a) λ_ a=>?_
 subst a
 refine eS h λv h _=>?_
 contradiction
theorem Pf {S:gn->List zt->w0->Prop} (HB:gV c) (HF:AG S c) (kB:2<=a->∀ns ss kC,S ns ss kC->O5 c a ns ss kC) (h:eE PG (a+1) (.fn d) j b n) (hr:mP (a+1) L) (r:R c b m) (qs:hX c m.heap aj j) (hZ:∀v K,k4 c b m n v K->bG (.ok (.ret v)) K):sq (hU c.prog c.w) L (.call (.ref (c.fa d)) ⟨aj,[]⟩) bG m:=by
 refine Dk h λkn F lJ hF J h=>?_
 have kK:=kB kn
 .rcases HF d F hF with rfl |⟨p,D,lI,u,FK⟩
  .exact (Pe J h).elim
  .clear HF kB kn hF;obtain ⟨ps,Z,sz,g⟩:=F
   obtain ⟨hp,lF,kU,lj,V,kD,N⟩:=u
   .dsimp only at V kD N FK h
    subst kD
    refine qk (q6 lF) λk1 k2 k3 O k5=>?_
    refine qW FK.obj λo l lr=>C_ lr λho lz kQ kW X lG kI kO kG lu lx=>?_
    .refine iK (Lu J) λkl J=>?_
     subst J
     .have kM:=r.old _ _ ho
      have km:ps.length=D.length:=by
       have k:=congrArg fj V
       rw [bb,bb,bb] at k
       exact k.symm
      have Y:=qs.length
      obtain ⟨E,kz,lh⟩:∃E:List eH,hX c m.heap E (Z)/\∀{Q':Option (Array eH)->eL->Prop},(∀o:Option (Array eH),(o.getD #[]).toList=E->Q' o m)->gc (hU c.prog c.w) L.in1 (seqItems? l.defaults) Q' (λe K=>bG (.error e) K) m:=by
       rcases lu with ⟨e1,e2⟩ |⟨t,kq,a,e1,e2,e3⟩
       .refine ej [] (by rw [e2];exact .nil) (λH=>?_)
        rw [e1]
        exact dk (H none rfl)
       .refine ej kq.toList (e3.mono λkV o e _=>r.old kV o e) (λH=>?_)
        rw [e1]
        exact sT (r.old _ _ e2) rfl (H (some kq) rfl)
      have W:=kz.length
      have lD:hX c m.heap (CD D.length aj E) (j++(Z).drop (j.length+(Z).length -ps.length)):=by
       unfold CD
       rw [Y,W,km]
       exact qs.append (kz.drop _)
      have h3:=kl.1
      rw [bh,ey] at h3
      have k:aj.length<=D.length:=by exact Vb (n1 Y kl.2) km.symm
      have I:D.length<=aj.length+E.length:=by exact WN h3 km Y W
      have kH:l.scope.isCoroutine=false:=by rw [X];exact k3
      have kN:l.scope.isGenerator=false:=by rw [X];exact k2
      have kX:E.length<=D.length:=by have:=FK.dl;rw [show p.params.args=D by rw [hp]] at this;rw [W];exact this
      refine codeAny_call_function hr.Tp kM lz kH kN kW (kG.keeps r.old) ?_
      refine IP (kQ.trans hp) lj lh k I kX ?_
      rw [X,lG,kI,kO]
      refine er (AD (c:=c) (L:=L.in1) (m:=m) (Q:=λlB T=>T.heap.NoLimit/\sq (hU c.prog c.w) L (.func p.body lB) bG T) O ?_) (λ_ _ q=>q) λ_ _ e=>e.elim
      intro G C lA M
      have lH:FR c (vT p.scope G iD C (l.qualname++".<locals>.") (some (c.fa d)) l.code none j0) p.scope.names (gm (slots p.scope.names).length none) b lA:=by
       refine DG r O M _ rfl rfl k1 rfl rfl (λx d z=>.inl ?_) k5 (λx z=>absurd z (kU x)) (λx kP z=>by contradiction) (λx y kP z=>by contradiction) (λi x v hi hv=>?_) (by simp) λlq=>lx lq
       .show pe x p.scope.names=some d
        rw [<-sy];exact z
       .rw [tK] at hv
        split at hv<;>first |contradiction |(injection hv;contradiction)
      have lC:=r.grow M.grow
      refine ze V lH lC (lD.grow M.grow) kl.1 λT kZ kF ku=>⟨zg HB kF,?_⟩
      refine codeAny_func ?_
      refine er (kK _ _ _ N (L.deeper (vT p.scope G iD C (l.qualname++".<locals>.") (some (c.fa d)) l.code none j0)) _ _ b T _ (hr.deeper _) kZ kF h) (λf kJ ζ=>?_) λ_ _ e=>e.elim
      refine Ig ζ λfl lM lK lg=>qk lg λhf lL ly kx kY=>j_ kY λlE kT=>iK kT λky H=>?_
      refine hZ _ kJ ⟨y7 fl,lE,?_,ly.le ky,St.le ⟨λg o e U=>?_,λg N=>?_⟩ ky,H⟩
      .induction hf with
       |next=>exact .none
       |brk=>exact .none
       |ret q=>exact q
      .have P:¬Own p.scope.names (vT p.scope G iD C (l.qualname++".<locals>.") (some (c.fa d)) l.code none j0) g:=λw=>by
        rcases w with w |⟨x,z,u⟩
        .have w:g=G:=w
         rw [w,M.fresh] at e;contradiction
        .have u:C.lookup x=some g:=u
         refine gj (M.own x ((jT O).mp z)) λc' k I _=>?_
         rw [u] at k;(injection k with k;subst k)
         rw [I] at e;contradiction
       exact kx.keep g o (ku.keep g o (M.grow.keep g o e) U P) U P
      .rcases kx.foot g N with h |h
       .exact .inl h
       .induction e:m.heap.get? g with
        |none=>exact .inr rfl
        |some o=>
         refine .inl (gh λU=>?_)
         have P:¬Own p.scope.names (vT p.scope G iD C (l.qualname++".<locals>.") (some (c.fa d)) l.code none j0) g:=λw=>by
          rcases w with w |⟨x,z,u⟩
          .have w:g=G:=w
           rw [w,M.fresh] at e;contradiction
          .have u:C.lookup x=some g:=u
           refine gj (M.own x ((jT O).mp z)) λc' k I _=>?_
           rw [u] at k;(injection k with k;subst k)
           rw [I] at e;contradiction
         rw [ku.keep g o (M.grow.keep g o e) U P] at h
         contradiction
theorem R.Pg {B:Base} (r:R B b m) {c:Nat} (E:c<10):b.free (m.heap.objs.size+1)/\b.free m.heap.objs.size/\
 R B (b.set (m.heap.objs.size+1) (.inst c m.heap.objs.size [])) {m with heap:=(m.heap.push yT).push (uc (B.ca c) m.heap.objs.size)}/\
 St B b m (b.set (m.heap.objs.size+1) (.inst c m.heap.objs.size [])) {m with heap:=(m.heap.push yT).push (uc (B.ca c) m.heap.objs.size)}:=by
 have z:(m.heap.push yT).objs.size=m.heap.objs.size+1:=rD ..
 generalize w:m.heap.objs.size+1=p at z
 generalize v:m.heap.objs.size=i at w
 have n:m.heap.get? i=none:=by rw [<-v];exact ik _
 have k:m.heap.get? p=none:=get?_none_of_le (by exact n1 v (eA (fC (fH _) w)))
 have l:∀{d},m.heap.get? d=none->¬ic B b d/\B.h₀.get? d=none:=λh=>r.kh h
 have s:∀{d},m.heap.get? d=none->b.free d:=λ{d} h=>by
  have N:=(l h).1
  exact ⟨by
   induction e:b d with
   |none=>rfl
   |some P=>exact absurd (.inl (by rw [e];simp)) N,λx c t e=>N (.inr (.inl (qA x c t e)))⟩
 have H:p≠i:=by exact λq=>OA i (w.trans q)
 have A:p≠B.tab:=λe=>(l k).1 (.inr (.inr e))
 have G:i≠B.tab:=λe=>(l n).1 (.inr (.inr e))
 have g:fI m {m with heap:=(m.heap.push yT).push (uc (B.ca c) i)}:=⟨λd o e=>fo _ (fo _ e),rfl,rfl⟩
 have D:((m.heap.push yT).push (uc (B.ca c) i)).get? p=some (uc (B.ca c) i):=by rw [<-z];exact eW _ rfl
 have C:((m.heap.push yT).push (uc (B.ca c) i)).get? i=some (rv [] 0):=fo _ (by rw [<-v];exact eW _ rfl)
 have F:∀d,ic B (b.set p (.inst c i [])) d->ic B b d\/d=p\/d=i:=by
  clear r E z v w n k l s H A G g D C;rintro d (h |⟨a,y,t,h⟩ |h)
  .by_cases f:d=p
   .exact .inr (.inl f)
   .rw [gw f] at h;exact .inl (.inl h)
  .by_cases j:a=p
   .subst j;rw [gX] at h;cases (h);exact .inr (.inr rfl)
   .rw [gw j] at h;exact .inl (.inr (.inl (qA a y t h)))
  .exact .inl (.inr (.inr h))
 refine ur (s k) (s n) ⟨λa o e=>?_,λd o e=>g.keep _ _ (r.old d o e),λd f=>?_,λa y M t e=>?_,?_,r.tab.mono (λa o e _=>g.keep a o e) λo e=>g.keep _ o e,r.gens,r.os⟩ ⟨λd o e _=>g.keep d o e,λd f=>?_⟩
 .by_cases j:a=p
  .subst j;rw [gX] at e;(injection e with e;subst e)
   exact .inst D C .nil eI E
  .rw [gw j] at e;exact (r.objs a o e).grow g
 .rcases F d f with h |rfl |rfl
  .exact r.new d h
  .exact (l k).2
  .exact (l n).2
 .by_cases j:a=p
  .clear r E z v w k l A g D C F;subst j;rw [gX] at e;cases (e)
   refine iz (by rw [gw H.symm];exact (s n).1) G (λd c2 I u=>?_)
   by_cases f:d=a
   .exact f
   .rw [gw f] at u
    exact absurd u ((s n).2 d c2 I)
  .rw [gw j] at e
   refine mW (r.Cq a y M t e) λO L K=>?_
   have J:M≠p:=λq=>(s k).2 a y t (q▸e)
   refine iz (by rw [gw J];exact O) L (λd c2 I u=>?_)
   by_cases f:d=p
   .clear r E z v w k l H A G g D C F j O L K J;subst f;rw [gX] at u;cases (u)
    exact absurd e ((s n).2 a y t)
   .rw [gw f] at u;exact K d c2 I u
 .rw [gw (nA A)];exact r.vB
 .rcases F d f with h |rfl |rfl
  .exact .inl h
  .exact .inr k
  .exact .inr n
noncomputable def So (B:Base) (n:Nat):Prop:=∀(A:jc) (k:Nat) (args:List AV) (st:AS) (Q:AV->AS->Prop) (vs:List eH) (s:eL) (Z:Result->eL->Prop),
 eE PG n (.fn k) args st Q->mP n A->R B st s->hX B s.heap vs args->(∀v s',k4 B st s Q v s'->Z (.ok (.ret v)) s')->sq (hU B.prog B.w) A (.call (.ref (B.fa k)) ⟨vs,[]⟩) Z s
theorem J1 (C:gY) (a:List eH):Code.weight (.builtin "type.__call__" ⟨.ref C::a,[]⟩)=1:=by kernel_rfl
theorem Mn (C:gY) (a:List eH):Code.cUnits (.builtin "type.__call__" ⟨.ref C::a,[]⟩)=1:=by kernel_rfl
theorem Mo (A:jc) (C:gY) (a:List eH):(A.under (.builtin "type.__call__" ⟨.ref C::a,[]⟩)).handled=A.handled/\(A.under (.builtin "type.__call__" ⟨.ref C::a,[]⟩)).depth=A.depth+1/\(A.under (.builtin "type.__call__" ⟨.ref C::a,[]⟩)).units=A.units+1:=
 (iz rfl (congrArg (A.depth+·) (J1 C a)) (congrArg (A.units+·) (Mn C a)))
theorem Mp (e:gV c) (B:So c a) (h:eE PG (a+1) (.cls d) j b n) (i:mP (a+1) L) (r:R c b m) (y:hX c m.heap aj j):
 WE c L (nC (.ref (c.ca d)) aj []) (k4 c b m n) m:=by
 refine eS h λC k h=>?_
 .have f:d<10:=by rw [<-e.LI];exact (ew.mp k).1
  refine eS (e.cls d f) λO p K=>?_
  rw [k] at p;obtain rfl:=d5 p
  have X:=e.Hi r
  have u:=looks_findIn (M:=hU c.prog c.w) X K.init
  have F:=λw=>bind_fn (M:=hU c.prog c.w) X w (beq_iff_eq.mp K.Tq)
  have Y:=makes_of (M:=hU c.prog c.w) X K.makes
  refine wV (r.Pg (c:=d) f) λo l H q=>?_
  have s:=h _ _ o l (OA _)
  refine QP ?_
  clear e k h f K X o l;obtain ⟨J,g,P,t,N⟩:=m
  refine make_core Y u F (.inl rfl) ?_
  refine mW (Mo L (c.ca d) aj) λu1 u2 u3=>?_
  refine B _ C.init _ _ _ _ _ _ s ⟨by have:=i.depth;exact V0 u2 this rfl,by have:=i.units;exact V0 u3 this rfl,u1.trans i.handled⟩ H (.cons (.ref _) (y.step r q)) ?_
  intro v Q z;obtain ⟨x,E,A,I,D,rfl,G⟩:=z
  obtain rfl:=qE A
  exact ⟨rfl,.ref _,E,.ref _,I,q.trans D,G⟩
inductive uI (B:Base) (n:Nat) (ns:gn):List (Option gf)->List gf->wZ->Prop where
 |nil:uI B n ns [] [] .nil
 |cons {k v:gf} {ks:List (Option gf)} {vs:List gf} {a b:CE} {r:wZ}:SE B n ns k a->SE B n ns v b->uI B n ns ks vs r->uI B n ns (some k::ks) (v::vs) (.cons a (.cons b r))
noncomputable def Fs (ps:List (eH×eH)):List Value:=ps.flatMap λp=>[p.1,p.2]
theorem J2:∀ps:List (eH×eH),(Fs ps).length=2*ps.length:=by
 intro d
 induction d with
 |nil=>
  exact rfl
 |cons p ps c=>
  have:=c
  show (p.1::p.2::Fs ps).length=2*(ps.length+1)
  simp only [e_];exact (λ{a b}=>SQ.mpr) (congrFun (congrArg HAdd.hAdd this) 1)
theorem J3:∀c:List (Int×AV),(Ci c).length=2*c.length:=by
 intro f
 induction f with
 |nil=>
  exact rfl
 |cons e ps d=>
  obtain ⟨k,v⟩:=e
  have:=d
  show (AV.int k::v::Ci ps).length=2*(ps.length+1)
  simp only [e_];exact (λ{a b}=>SQ.mpr) (congrFun (congrArg HAdd.hAdd this) 1)
variable {d6:List (Option gf)}
theorem uI.all (h:uI c a v d6 az ar):d6.all (·.isSome)=true/\d6.length=az.length:=by
 induction h with
 |nil=>exact ⟨rfl,rfl⟩
 |cons _ _ _ b=>exact ⟨by simpa using b.1,congrArg rV b.2⟩
theorem Mq (D:uI c a v d6 az ar):∀{A:jc} {m:MM} {b:AS} {s:eL} {Q:List AV->AS->Prop} {o:EB},mP a A->FR c ab v m b s->R c b s->Io PG (eE PG a) ar m b Q->
 WE c A (evalPairs (pairTrees d6 az ab o)) (λps i=>∃d k,hX c i.heap (Fs ps) d/\R c k i/\St c b s k i/\ps.length=d6.length/\Q d k) s:=by
 induction D with
 |nil=>intro A m b s Q o f F r h;exact pairTrees_nil_walk (qV [] b .nil r .refl rfl h)
 |cons J M _ u=>
  intro A m b s Q o f F r h
  refine pairTrees_cons_walk (er (J A ab m b s _ f F r h) (λS G ⟨x,C,t,q,g,L⟩=>er (M A ab m C G _ f (F.step r g) q L) (λN P n=>?_) λ_ _ e=>e) λ_ _ e=>e)
  obtain ⟨y,T,w,p,j,B⟩:=n
  refine er (u f (F.step r (g.trans j)) p B) (λps O n=>?_) λ_ _ e=>e
  refine gq n λd E K H l I z=>?_
  exact qV (x::y::d) E (.cons ((t.step q j).step p l) (.cons (w.step p l) K)) H ((g.trans j).trans l) (congrArg rV I) z
theorem J4:∀{ps:List (eH×eH)} {f:List (Int×AV)} {a:List (Int×eH)} {s:eL} {Q:PUnit->eL->Prop},hX c s.heap (Fs ps) (Ci f)->s.heap.DictAt (t7 c) z a a.length->(a.map (·.1)++f.map (·.1)).Nodup->a.length+f.length<=fF->
 (∀u g,vM z s u->u.heap.DictAt (t7 c) z (a++g) (a.length+g.length)->g.map (·.1)=f.map (·.1)->hX c u.heap (g.map (·.2)) (f.map (·.2))->Q ⟨⟩ u)->WE c L (storeAll z ps) Q s:=by
 intro P
 induction P with
 |nil=>
  intro f a s Q q i j h m
  induction f using el with
  |nil=>exact dk (m s [] ⟨λ_ _ _ e=>e,rfl,rfl⟩ (by simpa using i) rfl .nil)
  |cons p r=>clear i j h m;obtain ⟨k,v⟩:=p;contradiction
 |cons J ps I=>
  intro f a s Q q i j h m
  obtain ⟨C,n⟩:=J
  induction f using el with
  |nil=>contradiction
  |cons p r=>
   obtain ⟨k,x⟩:=p
   change hX c s.heap (C::n::Fs ps) (.int k::x::Ci r) at q
   cases q with
   |cons K q=>
    cases q with
    |cons X q=>
     refine rX C (gp K) λt=>?_
     unfold storeAll
     rw [qK]
     have R:jm a k=none:=by
      induction e:jm a k with
      |none=>rfl
      |some v=>
       exfalso
       unfold jm at e
       refine eS (fW.mp e) λp D _=>?_
       have V:=sl D
       have H:p.1=k:=by have:=BC D;simpa using this
       rw [eP] at j
       exact j.2.2 k (ck.mpr (ej p V H)) k (by simp) rfl
     have B:∀o,s.heap.get? z=some o->¬f_ o:=λo e=>by
      refine nW i λG W d _ A _=>?_
      rw [e] at d;(injection d with d;subst d);exact rJ A
     refine b5 (b5 (wa (knd:=t7 c) (pI _ _ k t) i (λw S _ _=>absurd R S) (λw _ E N=>dk ?_) (a_ (by simp at h;exact Nat.le_of_add_right_le h) hY)))
     have l:vM z s {s with heap:=w,toks:=s.toks+1}:=⟨λb o l e=>(N.2 b l).trans e,rfl,rfl⟩
     refine I (a:=a++[(k,n)]) (q.but l B) (by rw [bh];exact E) (by simpa using j) (by simp at h⊢;exact sw h (eJ _)) λO g F y T M=>?_
     have U:∀o,({s with heap:=w,toks:=s.toks+1}:eL).heap.get? z=some o->¬f_ o:=λo e=>by
      refine nW E λG W d _ A _=>?_
      rw [e] at d;(injection d with d;subst d);exact rJ A
     refine m O ((k,n)::g) (l.trans F) ?_ (by simp [T]) (.cons ((X.but l B).but F U) M)
     rw [eC] at y
     rw [bh] at y
     rw [e_,show a.length+(g.length+1)=a.length+[(k,n)].length+g.length by simp;exact rG (Nat.succ_add_eq_add_succ a.length g.length)]
     exact y
theorem Mr (E:d6.length<15) (z:uI c a v d6 az ar):SE c a v (.Dict d6 az aa) (.dict ar):=λA kG m st s Q L F r h=>by
 refine iK z.all λI y=>?_
 have n:s.heap.get? s.heap.objs.size=none:=ik _
 refine iK (r.kh n) λt x=>?_
 by_cases T:d6=[]
 .clear E L F I t x;subst T
  have:az=[]:=gU.mp y.symm
  subst this
  rcases z with ⟨⟩
  refine gj h λj e u h=>?_
  have:j=[]:=by induction j using el with
   |nil=>rfl
   |cons p r=>clear n y u h;obtain ⟨k,kH⟩:=p;contradiction
  clear y u;subst this
  refine wpAny_Dict_empty ?_
  have w:(s.heap.push {cls:=.type "dict",data:=.dict #[]}).DictAt (t7 c) s.heap.objs.size [] 0:=nY _ (#[]) (eW _ rfl) ⟨rfl,rfl,rfl⟩ rfl (by intro e M;simp at M) .nil eI
  exact uE r (jw s _) n (.dict (.int w .nil rfl) (fy _)) (by (repeat intro _);contradiction) h
 .refine wpAny_Dict_any I y T (by exact nU E) ?_
  have g:=jw s {cls:=.type "dict",data:=.dict #[]}
  have w:(s.heap.push {cls:=.type "dict",data:=.dict #[]}).DictAt (t7 c) s.heap.objs.size [] 0:=nY _ (#[]) (eW _ rfl) ⟨rfl,rfl,rfl⟩ rfl (by intro e M;simp at M) .nil eI
  generalize hD:s.heap.objs.size=D at n t x w⊢
  generalize U:({s with heap:=s.heap.push {cls:=.type "dict",data:=.dict #[]}}:eL)=ku at g
  have J:ku.heap.DictAt (t7 c) D [] 0:=by rw [<-U];exact w
  refine er (Mq z L (F.step r (.grow g)) (r.grow g) h) (λps km ζ=>?_) λ_ _ e=>e
  refine EN ζ λxs kD H ky B V j e u kl=>?_
  subst e
  have Z:∃d,ku.heap.get? D=some d:=i5 J λd _ i _=>(oK d i)
  have O:km.heap.DictAt (t7 c) D [] 0:=by
   refine i5 J λd Y i r'=>?_
   exact nB d Y (B.keep _ _ i t) r'
  have R:¬ic c kD D:=λf=>(B.foot D f).elim t λl=>by refine j_ Z λd i=>?_;rw [l] at i;contradiction
  have N:j.length<=15:=by
   have X:=H.length
   have h2:=J2 ps
   have h3:=J3 j
   rw [h2,h3] at X
   exact n1 ((Nat.eq_of_mul_eq_mul_left (by decide) X).symm.trans V) (eA E)
  refine J4 (a:=[]) H O (by simpa using u) (by unfold fF;simp;exact a_ N (by decide)) λkF G K S P kx=>?_
  rw [BB] at S
  have W:∀d,km.heap.get? D=some d->¬f_ d:=λd e=>by
   refine nW O λo' Y i _ kB _=>?_
   rw [e] at i;obtain rfl:=d5 i;exact rJ kB
  have kq:=ky.but K R x W
  have kz:G.length=j.length:=by have:=congrArg fj P;simpa using this
  obtain ⟨f,kn,kC⟩:=kq.TJ (o:=.dict (j.map λp=>(.int p.1,p.2))) R x (.dict (.int (kvs:=G) (by simpa using S) (by rw [et];exact kx) (by
   rw [et]
   have e1:G.map (λp:Int×eH=>AV.int p.1)=(G.map (·.1)).map AV.int:=by rw [et];rfl
   rw [e1,P,et];rfl)) (by rw [bb];unfold fF;exact a_ N (by decide))) (by (repeat intro _);contradiction)
  refine ⟨.ref D,_,.ref D,kn,⟨λb d C nf=>K.keep b d (λq=>by rw [q,n] at C;contradiction) (B.keep b d (g.keep _ _ C) nf),λb C=>?_⟩,kl D f⟩
  clear E z L F r I y T hD t x w U J ky V u kl H Z O R N K S P kx W kq kz f kn;rcases kC b C with h |rfl
  .rcases B.foot b h with h |h
   .exact .inl h
   .induction e:s.heap.get? b using d_ with
    |none=>exact .inr rfl
    |some d=>rw [g.keep _ _ e] at h;contradiction
  .exact .inr n
section
noncomputable def wg {α:Type}:(o:Option α)->Option {a // o=some a}
 |none=>none
 |some a=>some ⟨a,rfl⟩
noncomputable def oE:(b:Bool)->Option (PLift (b=true))
 |true=>some ⟨rfl⟩
 |false=>none
noncomputable def DK (ns:gn) (b:gf) (cb:CE):Prop:=∀B n,gV B->qn B n->SE B n ns b cb/\∀k m st Q,VE PG (eE PG (k+1)) cb m st Q->VE PG (eE PG 1) cb m st Q
noncomputable def zV (B:Base) (n:Nat):Prop:=∀(ns:gn) (f e:gf) (c:CE) (a:yW) (b:gf) (sc:En) (lp kp pos:EB) (cb:CE),yd ns f=true->Co a sc=true->BN ns=true->DK sc.names b cb->
 xa e=true->SE B n ns e c->SE B n ns (.Call f [e] [⟨some JD,.Lambda a b sc lp,kp⟩] pos) (.ER c cb)
structure Ctx (B:Base) (n:Nat):Prop where
 HB:gV B
 HD:q5 B
 HC:qn B n
 HK:zV B n
structure PE (ns:gn) (e:gf) (c:CE):Prop where
 ok:xa e=true
 se:∀{B n},Ctx B n->SE B n ns e c
 st:∀{B n},Ctx B n->ST B n ns e c
 su:∀{B n},Ctx B n->DD e=true->SU B n ns e c
noncomputable abbrev RE (ns:gn) (e:gf):=Option {c:CE // PE ns e c}
theorem rK (d:∀{B n},Ctx B n->SE B n v a0 g) (l:∀(X:Ak) (m:MM) (a:AS) (Q:Bool->AS->Prop),VT PG X g (VE PG X g) m a Q=VE PG X g m a λc a=>∃b,nN a c b/\Q b a) (f:∀k e,GR a0 k e=(do let c <-e;GA a0.pos;yQ [c] (EA c))) (i:xa a0=true) (j:DD a0=false):PE v a0 g:=
 ⟨i,d,λC=>Az (d C) (l _) f,λ_ h=>by rw [j] at h;contradiction⟩
noncomputable def Ft (e:gf):Option (PLift (xm e)):=
 rB 23 e ⟨λ_ _=>some ⟨λ_ _ _=>rfl⟩⟩ (rB 20 e ⟨λ_ _ _=>some ⟨λ_ _ _=>rfl⟩⟩ (rB 21 e ⟨λ_ _ _=>some ⟨λ_ _ _=>rfl⟩⟩ (rB 6 e ⟨λ_ _ _=>some ⟨λ_ _ _=>rfl⟩⟩ (rB 16 e ⟨λf as ks q=>
  rB 20 f ⟨λ_ _ _=>some ⟨λ_ _ _=>rfl⟩⟩ (rB 23 f ⟨λx p=>match as,ks with
   |[],[]=>if h:x=G_ then none else some ⟨Dz h⟩
   |_::_,_=>some ⟨λ_ _ _=>rfl⟩
   |_,_=>none⟩ none)⟩ none))))
structure UP (ns:gn) (es:List gf) (cs:wZ):Prop where
 ok:An es=true
 TN:∀{B n},Ctx B n->LJ B n ns es cs
 VB:∀{B n},Ctx B n->Pb B n ns es cs
 len:cs.len=es.length
section
variable (ns:gn) (f:(e:gf)->RE ns e)
noncomputable def Sp:(es:List gf)->Option {cs:wZ // UP ns es cs}
 |[]=>some ⟨.nil,rfl,λ_=>Dw,λ_=>.nil,rfl⟩
 |e::r=>(f e).bind λa=>(Sp r).map λb=>⟨.cons a.1 b.1,by show (xa e&&An r)=true;rw [a.2.ok,b.2.ok];rfl,λC=>xk a.2.ok (a.2.se C) (b.2.TN C),λC=>.cons (a.2.st C) (b.2.VB C),congrArg rV b.2.len⟩
theorem AH {x:j7} {c:CE} (h:uw GG ns x=some c):(∃v,c= .cst v)\/∃i,c= .var i:=
 (Cn _ h).2.elim (λh=>eS h.2 λv _ e=>.inl ⟨v,e⟩) λ⟨_,i,_,_,_,e⟩=>.inr ⟨i,e⟩
noncomputable def TO (x:j7) (p):RE ns (.Name x p):=(wg (uw GG ns x)).map λc=>⟨c.1,rK (λC=>xg C.HB c.2) (λX m st Q=>by
 rcases AH ns c.2 with ⟨v,e⟩ |⟨i,e⟩<;>rw [e]<;>rfl) (λ_ _=>rfl) rfl rfl⟩
noncomputable def TP:(o:Option gf)->Option {c:CE // ∀{B n},Ctx B n->SO B n ns o c}
 |none=>some ⟨.cst .none,λ_=>E7⟩
 |some e=>(f e).map λa=>⟨a.1,λC=>E9 (a.2.se C)⟩
noncomputable def Qx (op:YV) (p:EB):(vs:List gf)->RE ns (.BoolOp op vs p)
 |[]=>none
 |[e]=>(f e).map λa=>⟨a.1,rfl,λC=>JJ (a.2.se C),λC=>Hg (a.2.st C),λ_ h=>nomatch h⟩
 |e::g::r=>(f e).bind λa=>(Qx op p (g::r)).map λb=>match op,b with
  | .And,b=>⟨.and a.1 b.1,rfl,λC=>snd_and (a.2.se C) (b.2.se C),λC=>LY (a.2.st C) (b.2.st C),λ_ h=>nomatch h⟩
  | .Or,b=>⟨.or a.1 b.1,rfl,λC=>Q_ (a.2.se C) (b.2.se C),λC=>OZ (a.2.st C) (b.2.st C),λ_ h=>nomatch h⟩
noncomputable def kPairs:(ks:List (Option gf))->(vs:List gf)->Option {cs:wZ // ∀{B n},Ctx B n->uI B n ns ks vs cs}
 |[],[]=>some ⟨.nil,λ_=>.nil⟩
 |some k::ks,v::vs=>(f k).bind λa=>(f v).bind λb=>(kPairs ks vs).map λc=>⟨.cons a.1 (.cons b.1 c.1),λC=>.cons (a.2.se C) (b.2.se C) (c.2 C)⟩
 |_,_=>none
noncomputable def VC (l:gf) (p:EB):(ops:List Et)->(cs:List gf)->RE ns (.Compare l ops cs p)
 |[o],[e]=>(f l).bind λa=>(f e).map λb=>⟨.cmp a.1 (zD o) b.1,rfl,λC=>LU C.HB C.HD (a.2.se C) b.2.ok (b.2.se C),λC=>JK C.HB C.HD (a.2.se C) b.2.ok (b.2.se C),λ_ h=>nomatch h⟩
 |[o,q],[e,g]=>(f l).bind λa=>(f e).bind λb=>(f g).map λc=>⟨.EP a.1 (zD o) b.1 (zD q) c.1,rfl,λC=>LV C.HB C.HD (a.2.se C) b.2.ok (b.2.se C) c.2.ok (c.2.se C),λC=>JL C.HB C.HD (a.2.se C) b.2.ok (b.2.se C) c.2.ok (c.2.se C),λ_ h=>nomatch h⟩
 |_,_=>none
noncomputable def Yh (e:gf) (p:EB):(o:UnaryOp)->RE ns (.UnaryOp o e p)
 | .USub=>(f e).map λa=>⟨.neg a.1,rK (λC=>IH (a.2.se C)) (λ_ _ _ _=>rfl) (λ_ _=>rfl) rfl rfl⟩
 | .Not=>(f e).map λa=>⟨.not a.1,rfl,λC=>OX (a.2.se C),λC=>LW (a.2.st C),λ_ h=>nomatch h⟩
 |_=>none
noncomputable def Yi (v:gf) (pos:EB) (s:gf):RE ns (.Subscript v s pos):=rB 26 s ⟨λl u w p=>match l,u,w with
 |l,u,none=>(f v).bind λe=>(TP ns f l).bind λa=>(TP ns f u).map λb=>⟨.tY e.1 a.1 b.1,rK (λC=>O0 (e.2.se C) (a.2 C) (b.2 C)) (λ_ _ _ _=>rfl) (λ_ _=>rfl) rfl rfl⟩
 |none,none,some w=>rB (M:=λw=>RE ns (.Subscript v (.Slice none none (some w) p) pos)) 3 w ⟨λo x q=>rB (M:=λx=>RE ns (.Subscript v (.Slice none none (some (.UnaryOp o x q)) p) pos)) 19 x ⟨λc k p=>match o,c with
  | .USub,.int 1=>(f v).map λe=>⟨.rev e.1,rK (λC=>O1 (e.2.se C)) (λ_ _ _ _=>rfl) (λ_ _=>rfl) rfl rfl⟩
  |_,_=>none⟩ none⟩ none
 |_,_,_=>none⟩ ((f v).bind λe=>(f s).map λi=>⟨.sub e.1 i.1,rK (λC=>IJ (e.2.se C) (i.2.se C)) (λ_ _ _ _=>rfl) (λ_ _=>rfl) rfl rfl⟩)
inductive uJ (ns:gn):List ug->Gens->Prop where
 |nil:uJ ns [] .nil
 |cons {t i:gf} {fs:List gf} {gs:List ug} {tg:List Nat} {ci:CE} {cs:wZ} {rest:Gens}:Am ns t=some tg->PE ns i ci->UP ns fs cs->uJ ns gs rest->uJ ns (⟨t,i,fs,0⟩::gs) (.cons tg ci cs rest)
noncomputable def Qy:(gs:List ug)->Option {g:Gens // uJ ns gs g}
 |[]=>some ⟨.nil,.nil⟩
 |⟨t,i,fs,0⟩::gs=>(wg (Am ns t)).bind λtg=>(f i).bind λci=>(Sp ns f fs).bind λcs=>(Qy gs).map λg=>⟨.cons tg.1 ci.1 cs.1 g.1,.cons tg.2 ci.2 cs.2 g.2⟩
 |_=>none
end
theorem J5 (C:Ctx c a) (j:SE c a v a0 g) (d:uJ v br bD):
 ∃(i:gY->zv->Ox Unit) (P:MM->MM->Prop),(∀e D b,sV (.ListComp a0 (⟨aH,aW,az,0⟩::br) aJ aa) 0 e (.ref D) b=uH aH aW az e (i D b) b (.compLoop (.ListComp a0 (⟨aH,aW,az,0⟩::br) aJ aa) 0 e (.ref D) b))/\
  Cy c a v P i (VG PG (eE PG a) (VE PG (eE PG a) g) bD)/\∀m,P m m:=by
 induction d using uJ.casesOn with
 |nil=>exact nu _ _ (zb rfl rfl) (Mi j) (λ_=>rfl)
 |cons l f k d=>
  induction d using uJ.casesOn with
  |nil=>exact nu _ _ (xp rfl rfl) (Rr C.HB rfl rfl l f.ok (f.se C) (k.VB C) j) (λ_=>trivial)
  |cons _ _ _ _=>
   refine nu _ (λ_ _=>True) (xp rfl rfl) (λA b m o s D n K q F r p h=>?_) (λ_=>trivial)
   have t:=h.1
   contradiction
theorem Ph (h:Dp aJ=true) (l:qY v aJ.names=true) (m:PE aJ.names a0 D) (o:Am aJ.names aH=some C) (c:PE v aW g) (f:UP aJ.names az ar) (d:uJ aJ.names br bD):
 PE v (.ListComp a0 (⟨aH,aW,az,0⟩::br) aJ aa) (.comp (qm v aJ.names) D C g ar bD):=by
 have b:∀{B n},Ctx B n->SE B n v (.ListComp a0 (⟨aH,aW,az,0⟩::br) aJ aa) (.comp (qm v aJ.names) D C g ar bD)/\SU B n v (.ListComp a0 (⟨aH,aW,az,0⟩::br) aJ aa) (.comp (qm v aJ.names) D C g ar bD):=λa=>by
  refine jS (J5 a (aH:=aH) (aW:=aW) (az:=az) (aJ:=aJ) (aa:=aa) (m.se a) d) λp P j k e=>?_
  exact Mj a.HB h l j o c.ok (c.se a) (f.VB a) k e
 exact ⟨rfl,λa=>(b a).1,λa=>Az (b a).1 (λ_ _ _=>rfl) (λ_ _=>rfl),λa _=>(b a).2⟩
noncomputable def notAttr (e:gf):Bool:=!(e.ctorIdx==20)
section
variable (ns:gn) (F:(ns:gn)->(e:gf)->RE ns e)
noncomputable def TQ (as:List gf) (pos:EB) (hl:as.length<20) (es:{cs:wZ // UP ns as cs}) (f:gf):RE ns (.Call f as [] pos):=rB 20 f
 ⟨λo nm ap=>(Ft o).bind λh=>(oE (decide (ap.endLine=pos.line))).bind λh'=>(F ns o).bind λe=>(wg (r5 AT nm)).map λx=>
  ⟨.fM e.1 x.1 es.1,rK (λC=>JS C.HB C.HC Tx (Tz C.HB) h.down (of_decide_eq_true h'.down) (pj x.2) hl es.2.ok (e.2.se C) (es.2.TN C)) (λ_ _ _ _=>rfl) (λ_ _=>rfl) rfl rfl⟩⟩
 ((oE (notAttr f)).bind λh=>(F ns f).map λg=>
  ⟨.call g.1 es.1,rK (λC=>Fb C.HB C.HC (λ_ _ _ q=>by have:=h.down;rw [q] at this;contradiction) es.2.ok (g.2.se C) (es.2.TN C)) (λ_ _ _ _=>rfl) (λ_ _=>rfl) rfl rfl⟩)
noncomputable def VD (kL:(ns:gn)->(b:gf)->Option {c:CE // DK ns b c}) (f e:gf) (pos:EB):(kws:List Ws)->RE ns (.Call f [e] kws pos)
 |[⟨some k,l,kp⟩]=>rB (M:=λl=>RE ns (.Call f [e] [⟨some k,l,kp⟩] pos)) 4 l ⟨λa b sc lp=>(oE (yd ns f)).bind λh1=>(oE (Co a sc)).bind λh2=>(oE (BN ns)).bind λh3=>(oE (decide (k=JD))).bind λh4=>(kL sc.names b).bind λcb=>(F ns e).map λc=>
  ⟨.ER c.1 cb.1,rK (λC=>by rw [of_decide_eq_true h4.down];exact C.HK ns f e c.1 a b sc lp kp pos cb.1 h1.down h2.down h3.down cb.2 c.2.ok (c.2.se C)) (λ_ _ _ _=>rfl) (λ_ _=>rfl) rfl rfl⟩⟩ none
 |_=>none
variable (kL:(ns:gn)->(b:gf)->Option {c:CE // DK ns b c})
noncomputable def TR (f:gf) (pos:EB):(as:List gf)->(kws:List Ws)->RE ns (.Call f as kws pos)
 |as,[]=>(oE (decide (as.length<20))).bind λh=>(Sp ns (F ns) as).bind λes=>TQ ns F as pos (of_decide_eq_true h.down) es f
 |[e],kws=>VD ns F kL f e pos kws
 |_,_=>none
noncomputable def TS (elt:gf) (sc:En) (p:EB):(gs:List ug)->RE ns (.ListComp elt gs sc p)
 |⟨t,i,fs,0⟩::gs=>(oE (Dp sc)).bind λh=>(oE (qY ns sc.names)).bind λh'=>(F sc.names elt).bind λce=>(wg (Am sc.names t)).bind λtg=>(F ns i).bind λci=>(Sp sc.names (F sc.names) fs).bind λcs=>(Qy sc.names (F sc.names) gs).map λg=>
  ⟨.comp (qm ns sc.names) ce.1 tg.1 ci.1 cs.1 g.1,Ph h.down h'.down ce.2 tg.2 ci.2 cs.2 g.2⟩
 |_=>none
noncomputable def Yj (e:gf):RE ns e:=
 rB 23 e ⟨λx p=>TO ns x p⟩<|
 rB 19 e ⟨λc u p=>(wg (Lx c)).map λv=>⟨.cst v.1,rK (λ_=>snd_const v.2) (λ_ _ _ _=>rfl) (λ_ _=>rfl) rfl rfl⟩⟩<|
 rB 0 e ⟨λop vs p=>Qx ns (F ns) op p vs⟩<|
 rB 2 e ⟨λl op r p=>(wg (Th op)).bind λo=>(F ns l).bind λa=>(F ns r).map λb=>⟨.bin o.1 a.1 b.1,rK (λC=>OW o.2 (a.2.se C) (b.2.se C)) (λ_ _ _ _=>rfl) (λ_ _=>rfl) rfl rfl⟩⟩<|
 rB 3 e ⟨λo e p=>Yh ns (F ns) e p o⟩<|
 rB 5 e ⟨λt b o p=>(F ns t).bind λx=>(F ns b).bind λy=>(F ns o).map λz=>⟨.ite x.1 y.1 z.1,rfl,λC=>OY (x.2.st C) (y.2.se C) (z.2.se C),λC=>LX (x.2.st C) (y.2.st C) (z.2.st C),λ_ h=>nomatch h⟩⟩<|
 rB 6 e ⟨λks vs p=>(oE (decide (ks.length<15))).bind λh=>(kPairs ns (F ns) ks vs).map λc=>⟨.dict c.1,rK (λC=>Mr (of_decide_eq_true h.down) (c.2 C)) (λ_ _ _ _=>rfl) (λ_ _=>rfl) rfl rfl⟩⟩<|
 rB 24 e ⟨λes p=>(oE (decide (es.length<20))).bind λh=>(Sp ns (F ns) es).map λc=>⟨.lst c.1,rK (λC=>OV (by rw [c.2.len];exact of_decide_eq_true h.down) (c.2.TN C)) (λ_ _ _ _=>rfl) (λ_ _=>rfl) rfl rfl⟩⟩<|
 rB 25 e ⟨λes k p=>(oE (decide (es.length<20))).bind λh=>(Sp ns (F ns) es).map λc=>⟨.tup c.1,rK (λC=>IG (by rw [c.2.len];exact of_decide_eq_true h.down) (c.2.TN C)) (λ_ _ _ _=>rfl) (λ_ _=>rfl) rfl rfl⟩⟩<|
 rB 15 e ⟨λl ops cs p=>VC ns (F ns) l p ops cs⟩<|
 rB 20 e ⟨λv a p=>(Ft v).bind λh=>(F ns v).bind λe=>(wg (r5 AT a)).map λx=>⟨.attr e.1 x.1,rK (λC=>L4 C.HB h.down (pj x.2) (e.2.se C)) (λ_ _ _ _=>rfl) (λ_ _=>rfl) rfl rfl⟩⟩<|
 rB 21 e ⟨λv s p=>Yi ns (F ns) v p s⟩<|
 rB 16 e ⟨λf as kws p=>TR ns F kL f p as kws⟩<|
 rB 8 e ⟨λelt gs sc p=>TS ns F elt sc p gs⟩<|
 none
noncomputable def PS (ns:gn) (s:zt) (c:CS):Prop:=∀{B n},Ctx B n->SS B n ns s c
noncomputable def Qz (ns:gn) (s:List zt) (c:w0):Prop:=∀{B n},Ctx B n->O5 B n ns s c
noncomputable def VF (e:gf) (p:EB) (v:{c:CE // PE ns e c}) (k:Nat) (q:EB):(ts:List gf)->EV (.Tuple ts k q) e=true->Option {c:CS // PS ns (.Assign [.Tuple ts k q] e p) c}
 |[s,t],hw=>rB (M:=λs=>EV (.Tuple [s,t] k q) e=true->Option {c:CS // PS ns (.Assign [.Tuple [s,t] k q] e p) c}) 20 s ⟨λo a p1=>rB (M:=λt=>EV (.Tuple [.Attribute o a p1,t] k q) e=true->Option {c:CS // PS ns (.Assign [.Tuple [.Attribute o a p1,t] k q] e p) c}) 20 t
  ⟨λo' a' p2 hw=>(F ns o).bind λx=>(wg (r5 AT a)).bind λi=>(F ns o').bind λx'=>(wg (r5 AT a')).map λi'=>
   ⟨.ES x.1 i.1 x'.1 i'.1 v.1,λC=>Md C.HB (pj i.2) (pj i'.2) hw v.2.ok (v.2.se C) (x.2.se C) (x'.2.se C)⟩⟩ λ_=>none⟩ (λ_=>none) hw
 |_,_=>none
noncomputable def VH (e:gf) (p:EB) (v:{c:CE // PE ns e c}) (t:gf):EV t e=true->Option {c:CS // PS ns (.Assign [t] e p) c}:=
 rB 23 t ⟨λx q _=>(wg (om ns x)).map λi=>⟨.asg i.1 v.1,λC=>Rp i.2 v.2.ok (v.2.se C) (v.2.su C)⟩⟩<|
 rB 25 t ⟨λts k q hw=>(VF ns F e p v k q ts hw).orElse λ_=>(wg (ux ns ts)).bind λl=>(oE (decide (2<=l.1.length))).bind λh=>(oE (decide l.1.Nodup)).map λh'=>⟨.s_ l.1 v.1,λC=>O8 l.2 (of_decide_eq_true h.down) (of_decide_eq_true h'.down) hw v.2.ok (v.2.se C)⟩⟩<|
 rB 20 t ⟨λo a q _=>(F ns o).bind λx=>(wg (r5 AT a)).map λi=>⟨.iA x.1 i.1 v.1,λC=>O9 C.HB (pj i.2) v.2.ok (v.2.se C) (x.2.se C)⟩⟩<|
 rB 21 t ⟨λo i q _=>(F ns o).bind λx=>rB (M:=λi=>Option {c:CS // PS ns (.Assign [.Subscript o i q] e p) c}) 26 i ⟨λl u w q'=>match l,u,w with
  |some l,some u,none=>(F ns l).bind λa=>(F ns u).map λb=>⟨.Lv x.1 a.1 b.1 v.1,λC=>O_ v.2.ok (v.2.se C) (x.2.se C) (a.2.se C) (b.2.se C)⟩
  |_,_,_=>none⟩ ((F ns i).map λk=>⟨.tZ x.1 k.1 v.1,λC=>O' C.HB v.2.ok (v.2.se C) (x.2.se C) (k.2.se C)⟩)⟩<|
 λ_=>none
variable (S:(ns:gn)->(s:List zt)->Option {c:w0 // Qz ns s c})
@[elab_as_elim] noncomputable def Ru {M:zt->Type} (k:Nat) (s:zt) (f:Stmt.ctorElimType.{1} (motive_2:=M) k) (g:M s):M s:=if h:k=s.ctorIdx then Stmt.ctorElim k s h f else g
noncomputable def kS (s:zt):Option {c:CS // PS ns s c}:=
 Ru 5 s ⟨λts e p=>match ts with
  |[t]=>(oE (EV t e)).bind λh=>(F ns e).bind λv=>VH ns F e p v t h.down
  |_=>none⟩<|
 Ru 24 s ⟨λe p=>(oE (Ip e)).bind λh=>(F ns e).map λv=>⟨.ex v.1,λC=>TC h.down (v.2.se C)⟩⟩<|
 Ru 3 s ⟨λe p=>match e with
  |none=>some ⟨.ret (.cst .none),λ_=>O7⟩
  |some e=>(F ns e).map λv=>⟨.ret v.1,λC=>Rl (v.2.se C)⟩⟩<|
 Ru 12 s ⟨λt a b p=>(F ns t).bind λx=>(S ns a).bind λy=>(S ns b).map λz=>⟨.iff x.1 y.1 z.1,λC=>TB (x.2.st C) (y.2 C) (z.2 C)⟩⟩<|
 Ru 11 s ⟨λt a b p=>match b with
  |[]=>(F ns t).bind λx=>(S ns a).map λy=>⟨.ET x.1 y.1,λC=>Mb (x.2.st C) (y.2 C)⟩
  |_=>none⟩<|
 Ru 9 s ⟨λt i a b p=>match b with
  |[]=>(wg (Am ns t)).bind λtg=>(F ns i).bind λx=>(S ns a).map λy=>⟨.kg tg.1 x.1 y.1,λC=>Ro C.HB tg.2 x.2.ok (x.2.se C) (y.2 C)⟩
  |_=>none⟩<|
 Ru 26 s ⟨λp=>some ⟨.brk,λ_=>Rm⟩⟩ none
end
structure S0 (ns:gn) (e:gf) (c:CE):Prop where
 ok:xa e=true
 se:∀{B n},gV B->SE B n ns e c
 lv:(∃j i,c= .sub (.var j) (.cst (.int i)))\/∃v i,c= .sub (.cst v) (.cst (.int i))
noncomputable def QA (ns:gn) (e:gf):Option {c:CE // S0 ns e c}:=rB 21 e ⟨λy z r=>rB (M:=λy=>Option {c:CE // S0 ns (.Subscript y z r) c}) 23 y ⟨λx p=>rB (M:=λz=>Option {c:CE // S0 ns (.Subscript (.Name x p) z r) c}) 19 z ⟨λc k q=>match c with
 | .int i=>(wg (uw GG ns x)).map λc=>⟨.sub c.1 (.cst (.int i)),rfl,λHB=>IJ (xg HB c.2) (snd_const rfl),(AH ns c.2).elim (λ⟨v,e⟩=>.inr ⟨v,_,by rw [e]⟩) λ⟨j,e⟩=>.inl ⟨j,_,by rw [e]⟩⟩
 |_=>none⟩ none⟩ none⟩ none
noncomputable def Pj:Str:=⟨⟨[108,101,110]⟩⟩
theorem AI (h:¬ao=tc) (a:h_ v ao=some .globalImplicit) (b:h_ GG ao=some l):uw GG v ao=some (.cst l):=by
 unfold uw;rw [if_neg h,a];exact congrArg (Option.map CE.cst) b
theorem J6:h_ GG Pj=some (.bi 0):=by kernel_rfl
theorem Ms (a:ao=Pj) (b:h_ v ao=some .globalImplicit):uw GG v ao=some (.cst (.bi 0)):=AI (a▸by unfold Pj tc;decide+kernel) b (a▸J6)
theorem Rv (b:S0 v a0 g) (d:S0 v aH D) (l:uw GG v ao=some (.cst (.bi 0))):DK v (.Tuple [.UnaryOp .USub (.Call (.Name ao aa) [a0] [] b9) cG,aH] a cV) (.tup (.cons (.neg (.call (.cst (.bi 0)) (.cons g .nil))) (.cons D .nil))):=λB n c q=>
 ⟨IG (show 2<20 by decide) (xk rfl (IH (Fb c q (λ_ _ _=>(by (repeat intro _);contradiction)) (by show (xa a0&&true)=true;rw [b.ok];rfl) (xg c l) (xk b.ok (b.se c) Dw))) (xk d.ok (d.se c) Dw)),
  λk m r Q h=>by
   rcases b.lv with ⟨j,i,e⟩ |⟨j,i,e⟩<;>rcases d.lv with ⟨p,o,f⟩ |⟨p,o,f⟩<;>rw [e,f] at h⊢<;>exact h⟩
noncomputable def VI (ns:gn) (b:gf):Option {c:CE // DK ns b c}:=rB 25 b ⟨λes x p=>match es with
 |[u,b]=>rB (M:=λu=>Option {c:CE // DK ns (.Tuple [u,b] x p) c}) 3 u ⟨λo w p1=>rB (M:=λw=>Option {c:CE // DK ns (.Tuple [.UnaryOp o w p1,b] x p) c}) 16 w ⟨λf as ks p2=>rB (M:=λf=>Option {c:CE // DK ns (.Tuple [.UnaryOp o (.Call f as ks p2) p1,b] x p) c}) 23 f ⟨λf fp=>match o,as,ks with
  | .USub,[a],[]=>(QA ns a).bind λa'=>(QA ns b).bind λb'=>(oE (decide (f=Pj))).bind λh1=>(oE (decide (h_ ns f=some .globalImplicit))).map λh2=>⟨_,Rv a'.2 b'.2 (Ms (of_decide_eq_true h1.down) (of_decide_eq_true h2.down))⟩
  |_,_,_=>none⟩ none⟩ none⟩ none
 |_=>none⟩ none
noncomputable def kE (kL:(ns:gn)->(b:gf)->Option {c:CE // DK ns b c}):Nat->(ns:gn)->(e:gf)->RE ns e
 |0,_,_=>none
 |k+1,ns,e=>Yj ns (kE kL k) kL e
noncomputable def VJ (F:(ns:gn)->(e:gf)->RE ns e):Nat->(ns:gn)->(s:List zt)->Option {c:w0 // Qz ns s c}
 |0,_,_=>none
 |k+1,ns,[]=>some ⟨.nil,λ_=>O6⟩
 |k+1,ns,s::r=>(kS ns F (VJ F k) s).bind λa=>(VJ F k ns r).map λb=>⟨.cons a.1 b.1,λC=>Ma (a.2 C) (b.2 C)⟩
noncomputable def TU (ns:gn) (b:List zt):Option {c:w0 // Qz ns b c}:=VJ (kE VI 30) 60 ns b
noncomputable def VK (dv:List AV) (sc:En) (body:List zt):(a:yW)->Option {F:mO // F.Im=dv/\∃as dfl,TM Qz ⟨a,body,sc⟩ F as dfl}
 |⟨[],as,none,[],[],none,dfl⟩=>(oE (Ao sc)).bind λh1=>(oE (qY [] sc.names)).bind λh2=>(oE (decide (argNames as).Nodup)).bind λh3=>(wg (Dq (slots sc.names) (argNames as))).bind λps=>(TU sc.names body).map λb=>
  ⟨⟨ps.1,dv,(slots sc.names).length,b.1⟩,rfl,as,dfl,rfl,h1.down,we h2.down,of_decide_eq_true h3.down,DJ h1.down (we h2.down) ps.2,rfl,b.2⟩
 |_=>none
noncomputable def Mt (B:Base):Prop:=∀k,zE B k
theorem AJ (m:gV c) (z:q5 c) (x:AG Qz c) (t:Mt c) (u:2<=a->zV c a) (o:qn c a/\So c a):qn c (a+1)/\So c (a+1):=by
 have n:So c (a+1):=λA k i j Q l s Z h e r d y=>Pf m x (λq C G D w=>w ⟨m,z,o.1,u q⟩) h e r d y
 refine ⟨λf i j Q A E l s h e r g d=>?_,n⟩
 induction f using AV.casesOn with
 |fn k=>
  obtain rfl:=Qs g
  exact QP (n A k i j Q l s _ h e r d λv F p=>p)
 |cls B=>obtain rfl:=Lz g;exact Mp m o.2 h e r d
 |bi b=>
  obtain rfl:=Qt g
  exact t b A i j Q l s h (e.le (by exact df 1 a)) r d
 |_=>exact h.elim
theorem Mu (b:gV c) (e:q5 c) (i:AG Qz c) (g:Mt c) (j:∀n,2<=n->qn c 1->qn c n->zV c n):∀n,qn c n/\So c n:=by
 have a:qn c 0/\So c 0:=⟨λf l m Q A p o s h=>h.elim,λA k l m Q o s Z h=>h.elim⟩
 have c1:=AJ b e i g (λh=>absurd h (by decide)) a
 intro n
 induction n with
 |zero=>exact a
 |succ n d=>exact AJ b e i g (λh=>j n h c1.1 d.1) d
end
theorem J7 (r:R c b m) (i:L.units+20<vy) (h:b a=some (.list j)) (n:b d=some (.list j)) (f:∀x∈j,Plain x):SeqAt.EqAt L m (.ref a) (.ref d) true:=by
 refine mW (q0 r h f) λg l s=>?_;obtain ⟨q,k⟩:=g
 refine mW (q0 r n f) λg o v=>?_;obtain ⟨t,u⟩:=g
 have e:mT (.list (jW j)) (.list (jW j))=true:=(show sk _ _=true↔_ from EY f f).mpr rfl
 have:=SeqAt.eqAt_reads (.list (jW j)) (.list (jW j)) L m _ _ q t k u l o (by
  have p:Eo (.list (jW j))=qp (jW j)+1:=rfl
  exact um i (n1 p (fh s)) rfl)
 rw [e] at this
 exact this
theorem Mv (z:R c b m) (u:L.units+20<vy) (t:hX c m.heap (cE.map (·.2)) (aC.map (·.2))) (j:aC.map (·.1)=cE.map (λp=>.int p.1)) (l:(aC.map (·.1)).Nodup):
 ∀{ka:List (Int×eH)} {a:List (AV×AV)},hX c m.heap (ka.map (·.2)) (a.map (·.2))->a.map (·.1)=ka.map (λp=>.int p.1)->
 (∀o∈a,∃i d g,o=(.int i,.ref d)/\b d=some (.list g)/\(∀x∈g,Plain x)/\∃n,(AV.int i,AV.ref n)∈aC/\b n=some (.list g))->KeqHits L m cE ka true:=by
 intro P
 induction P with
 |nil=>
  intro a q f h
  exact .nil
 |cons K ka B=>
  intro a q f h
  obtain ⟨F,D⟩:=K
  induction a using el with
  |nil=>clear z u t j l B h q;contradiction
  |cons p a=>
   refine Ig (h p (.head _)) λi d g Q=>Lh Q λG S H n I=>iK I λy J=>?_;subst G
   simp only [eG,ix,AV.int.injEq] at f
   cases q with
   |cons C T=>
    have:=gN C
    refine eS (oX t j l y) λw M E=>?_
    have O:=gN E
    clear t j l y C E;subst O
    have:=KeqHits.hit (A:=L) (s:=m) (kb:=cE) (k:=F) (v:=D) (r:=ka) (e:=true) (b:=true) (f.1▸M) (by rw [show D= .ref d from this];exact J7 z u S J H) (B T f.2 λo N=>h o (.tail _ N))
    exact this
set_option tactic.hygienic true in
theorem Rw (E:gV c):q5 c:=λn A st s a I b Q H Y J r g k e=>by
 have o:=J.Ax
 have z:=r.uA E g
 have C:=r.uA E k
 obtain ⟨d,l⟩:=r.oQ g
 obtain ⟨u,N⟩:=r.oQ k
 have F:∀{ka kb:List (Int×eH)} {O:Bool},s.heap.DictOf (t7 c) a ka->s.heap.DictOf (t7 c) I kb->(ka.length=kb.length->KeqHits A.in1 s kb ka O)->(ka.length==kb.length&&O)=b->
  ((∀w,fI s w->Q (.bool b) w)->WE c A (qQ .Eq (.ref a) (.ref I)) Q s)/\((∀w,fI s w->Q (.bool (!b)) w)->WE c A (qQ .NotEq (.ref a) (.ref I)) Q s):=λL P U T=>
  ⟨λh=>keq_eq z C L P (by exact pK o) U (by rw [T];exact h s (hJ _)),λh=>keq_ne z C L P (by exact pK o) U (by rw [T];exact h s (hJ _))⟩
 cases e with
 |plain hv _ _ _=>contradiction
 |list h _ _ _ _ _=>rw [g] at h;(injection h;contradiction)
 |Ij h G f=>
  rename_i km
  rw [g] at h;injection h with h;injection h with h;subst h
  rw [k] at f;injection f with f;injection f with f;subst f
  obtain ⟨ka,t,q,j⟩:=d.GN G
  obtain ⟨kb,y,B,m⟩:=u.GN (λp v=>by exact (eg v).elim)
  have kn:kb=[]:=by simpa using m.symm
  subst kn
  have x:ka.length=H.length:=by have:=congrArg fj j;simpa using this.symm
  refine F t.dictOf y.dictOf (O:=true) (λD=>?_) ?_
  .have:ka=[]:=gU.mp D
   clear E J r g o z C d l G F k u N t q j y B m x D;subst this;exact .nil
  .rw [x]
   clear E J r g o z C d l G F k u N t q j y B m x;rcases H with ⟨⟩<;>rfl
 |Ik h f S D x kl=>
  rename_i km kq
  rw [g] at h;injection h with h;injection h with h;subst h
  rw [k] at f;injection f with f;injection f with f;subst f
  obtain ⟨ka,t,q,j⟩:=d.GN (λp v=>let ⟨i,_,_,e,_⟩:=S p v;(oK i (by rw [e])))
  obtain ⟨kb,y,B,m⟩:=u.GN (λp v=>let ⟨i,_,_,e,_⟩:=D p v;(oK i (by rw [e])))
  have W:ka.length=H.length:=by have:=congrArg fj j;simpa using this.symm
  have X:kb.length=Y.length:=by have:=congrArg fj m;simpa using this.symm
  refine F t.dictOf y.dictOf (O:=true) (λ_=>Mv r (by show A.units+1+20<vy;exact ul 21 o rfl) B m u.nodup q j λkv M=>?_) ?_
  .obtain ⟨i,K,R,rfl,V,h2⟩:=S kv M
   obtain ⟨rb,Z,h4⟩:=kl i K R M V
   exact ⟨i,K,R,rfl,V,h2,rb,Z,h4⟩
  .rw [W,X,x];simp
theorem Pk:sU (.type "list") (iV "keys")=pure none:=am_miss_of_fast (by decide+kernel)
theorem wh {Q:Option eH->eL->Prop} (j:m.heap.get? z=some (listOf bf a)) (q:L.handled=none) (h:∀i,fI m i->Q none i):
 gc (hU c.prog c.w) L (getAttr? (.ref z) (iV "keys")) Q aG m:=by
 have o:=Pk
 have l:(["__module__","__name__","__qualname__","__doc__","__annotations__"]:List j7).contains (iV "keys")=false:=by decide+kernel
 have r:(iV "keys").length+100<=sizeLine:=by rw [nD];decide+kernel
 obtain ⟨p,g,d,u,n⟩:=m
 have f:∀b,(⟨p,g,d,b,n⟩:eL).TypeIs (.ref z) "list":=λ_=>ej _ j rfl
 have x:=sub_AttributeError
 have w:=tT.lookup
 have t:=tT.bind (.ref z)
 have y:=am_list_getattr_none
 unfold getAttr? getAttrBy? getAttrBy
 repeat (any_goals (first |assumption |exact f _ |((with_reducible show gc _ _ (nC (C6 "list.__getattribute__") _ _) _ _ _);refine vV tT (f _) am_entry_list_getattribute (F.args_list_getattribute_2 _ _) (meets_getattribute_miss_list z bf a _ _ _ o l r) (iz j q (λs b e k=>?_))) |wp_step))
 refine qW k.there λA v B=>?_
 show gc _ _ (QU _ _ _ _ _ _ _) _ _ _
 unfold QU
 repeat (any_goals (first |assumption |wp_step))
 exact h _ ⟨k.of.keeps,rfl,rfl⟩
theorem Hr (r:R c b m) (e:b z=some (.dict aC)) (M:IntKeys aC) (F:aC.length<fF) (u:RV c m.heap J l) (y:∀E,R c (b.set z (.dict (dictPut aC (.int p) l))) E->St c b m (b.set z (.dict (dictPut aC (.int p) l))) E->bq () E):WE c L (K0 z (.int p bF) J) bq m:=by
 refine iK (r.oQ e) λd H=>?_
 have s:ic c b z:=.inl (by rw [e];simp)
 refine gj (d.GN M) λg I q i=>?_
 have N:g.length=aC.length:=by have:=congrArg fj i;simpa using this.symm
 refine wa (knd:=t7 c) (pI _ _ p bF) I (λA w x k=>?_) (λA w x k=>?_) (a_ (by exact n1 N (eA F)) hY)
 .have j:=r.nO s k
  have n:AV.int p∈aC.map (·.1):=(n0 i).mp (by induction U:jm g p with
   |none=>exact absurd U w
   |some _=>rfl)
  have f:dictPut aC (.int p) l=aC.map λa=>if a.1= .int p then (.int p,l) else a:=by unfold dictPut;rw [if_pos n]
  have C:RO c A z (.dict (dictPut aC (.int p) l)):=by
   refine .dict (.int (by rw [bb];exact x) ?_ ?_) (by rw [f,bb];exact H)
   .rw [f]
    clear f n w x I y F H d e N M
    induction aC generalizing g with
    |nil=>induction g using el with
     |nil=>exact .nil
     |cons _ _=>clear r u s k j q;contradiction
    |cons a ps K=>
     induction g using el with
     |nil=>clear r u s k j K q;contradiction
     |cons O g=>
      simp only [eG,ix] at i⊢
      cases q with
      |cons T Y=>
       have P:(a.1=AV.int p)↔O.1=p:=by rw [i.1];exact ⟨λh=>by injection h,λh=>by rw [h]⟩
       refine .cons ?_ (K _ Y i.2)
       by_cases v:O.1=p
       .rw [if_pos v,if_pos (P.mpr v)];exact u.mono j
       .rw [if_neg v,if_neg (λQ=>v (P.mp Q))];exact T.mono j
   .rw [f,et,et]
    have W:aC.map ((λl=>l.1)∘λa=>if a.1= .int p then (.int p,l) else a)=aC.map (·.1):=by
     apply fm;intro a _;simp only [ow];split
     .rename_i V;exact V.symm
     .rfl
    have X:g.map ((λa:Int×eH=>AV.int a.1)∘λD=>if D.1=p then (D.1,J) else D)=g.map λa=>.int a.1:=by
     apply fm;intro a _;simp only [ow];split<;>rfl
    rw [W,X];exact i
  obtain ⟨B,G⟩:=r.upd (t:=m.toks+1) (o:=.dict (dictPut aC (.int p) l)) e k (.inl (iz rfl (by (repeat intro _);contradiction) (by (repeat intro _);contradiction))) C
  exact y _ B G
 .have j:=r.nO s k
  have n:AV.int p∉aC.map (·.1):=λS=>by
   have:=(n0 i).mpr S
   rw [w] at this;contradiction
  have f:dictPut aC (.int p) l=aC++[(.int p,l)]:=by unfold dictPut;rw [if_neg n]
  have C:RO c A z (.dict (dictPut aC (.int p) l)):=by
   refine .dict (.int (by rw [bh];exact x) ?_ ?_) (by rw [f,bh];exact F)
   .rw [f,b_,b_];exact (q.mono j).append (.cons (u.mono j) .nil)
   .rw [f,b_,b_,i];rfl
  obtain ⟨B,G⟩:=r.upd (t:=m.toks+1) (o:=.dict (dictPut aC (.int p) l)) e k (.inl (iz rfl (by (repeat intro _);contradiction) (by (repeat intro _);contradiction))) C
  exact y _ B G
theorem Fu (h:IntKeys aC) (i:Int) (x:AV):IntKeys (dictPut aC (.int i) x):=λp a=>by
 unfold dictPut at a
 split at a
 .refine iQ p (ck.mp a) λq b=>?_
  split
  .exact ⟨i,rfl⟩
  .exact h q b
 .rcases eF.mp a with a |a
  .exact h p a
  .rw [dt] at a;subst a;exact ⟨i,rfl⟩
theorem Pl (k x:AV):(dictPut aC k x).length<=aC.length+1:=by
 unfold dictPut
 split
 .rw [bb];exact eh aC.length 1
 .rw [bh];exact eJ _
theorem uK:entryFor table "dict.update.loop"=some vX.«dict.update.loop»:=entryFor_of_tree (by kernel_rfl)
theorem pk:plainId "dict.update.loop"=true:=by decide+kernel
theorem St.but (y:St c q ae b m) (f:vM z m aZ) (h:ae.heap.get? z=none):St c q ae b aZ:=
 ⟨λd o e a=>f.keep d o (λg=>by clear y f a;subst g;rw [h] at e;contradiction) (y.keep d o e a),y.foot⟩
theorem Mw (km:aV≠z) (X:L.handled=none) (O:c.h₀.get? cU=none) (U:m.heap.get? cU=none):∀(left:List (AV×AV)) {u:Nat} {T:Int} {a:List (AV×AV)} {g:AS} {s:eL},g z=some (.dict a)->g aV=some (.list j)->IntKeys a->j.drop u=left.map (λp=>.tup [p.1,p.2])->
 (∀p∈left,∃k,p.1= .int k)->a.length+left.length<=fF->R c g s->St c b m g s->wJ c s.heap cU (.list aV j) j u->¬ic c g cU->
 (∀E,R c (g.set z (.dict (left.foldl (λd p=>dictPut d p.1 p.2) a))) E->St c b m (g.set z (.dict (left.foldl (λd p=>dictPut d p.1 p.2) a))) E->bG (.ok (.ret .none)) E)->
 sq (hU c.prog c.w) L (.builtin "dict.update.loop" ⟨[.ref z,.ref cU,.int T 0,.none],[]⟩) bG s:=by
 intro left
 induction left with
 |nil=>
  intro u T a g s J D N G M B r y q C Q
  refine Ul uK ?_
  rw [Around.under_plainId pk _]
  unfold vX.«dict.update.loop»
  have H:j[u]? =none:=by
   rw [i6]
   have:=congrArg fj G
   rw [ey] at this;simp at this;exact nH this
  have I:∀o,s.heap.get? cU=some o->¬f_ o:=λo e=>by refine eS q.nf λo' h W=>?_;rw [e] at h;(injection h with h;subst h);exact W
  refine b5 (Sn (er (q.done (A:=L.in1) r D X H) (λkD Y F=>?_) λ_ _ e=>e))
  refine iK F λe x=>?_
  clear km X D N G M B q H F;subst e
  show gc _ _ (Uv z []>>= λ_=>ret .none) _ _ _
  refine b5 (dk (dk (Q Y ?_ ?_)))
  .rw [Qi,AS.set_same J];exact r.but x C O I
  .rw [Qi,AS.set_same J];exact y.but x U
 |cons p left ih=>
  intro u T a g s J D N G M B r y q C Q
  refine Ul uK ?_
  rw [Around.under_plainId pk _]
  unfold vX.«dict.update.loop»
  refine j_ (M p (.head _)) λk kq=>?_
  have H:j[u]? =some (.tup [p.1,p.2]):=by
   have:(j.drop u)[0]? =some (.tup [p.1,p.2]):=by rw [G];rfl
   rw [pb] at this;simpa using this
  have I:∀o,s.heap.get? cU=some o->¬f_ o:=λo e=>by refine eS q.nf λo' h W=>?_;rw [e] at h;(injection h with h;subst h);exact W
  refine b5 (Sn (er (q.next (A:=L.in1) r D H) (λkD Y F=>?_) λ_ _ e=>e))
  refine rZ F λw e x kl qw=>?_
  clear X q H F;subst e
  have kn:=r.but x C O I
  have kz:=y.but x U
  refine g5 w (iB qw) λt kx n Z lt qt=>?_
  refine jS qt.two λv1 v2 ev V q2=>?_
  rw [kq] at V
  refine j_ (gp V) λt1 ku=>?_;clear O U r y I x qw lt qt V;subst ku
  dsimp only
  refine b5 (f6 (b5 (wpAny_tryCatch ?_)))
  unfold Us
  refine b5 (so (oP Z) ?_)
  rw [if_pos (by decide)]
  refine b5 (sT Z rfl (dk ?_))
  show gc _ _ (match kx.toList with |[k,v]=>yQ [k,v] (K0 z k v) |l=>_) _ _ _
  rw [ev]
  refine f6 (Sn (Hr kn J N (by simp at B;exact pK B) q2 λkF kC K=>?_))
  refine dk ⟨VU pk _,?_⟩
  have kB:¬ic c (g.set z (.dict (dictPut a (.int k) p.2))) cU:=λf=>(K.foot cU f).elim C λl=>by refine eS kl.nf λo e _=>?_;rw [l] at e;contradiction
  refine ih (u:=u+1) (a:=dictPut a (.int k) p.2) (gX _ _ _) ?_ (Fu N _ _) ?_ (λp' ky=>M p' (.tail _ ky)) ?_ kC (kz.trans K) ?_ kB ?_
  .rw [gw km];exact D
  .rw [<-ig,G];rfl
  .have:=Pl (aC:=a) (.int k) p.2
   simp at B;exact sw B this
  .exact kl.mono (K.frozen kn) λo e=>K.keep cU o e C
  .intro E P S
   rw [Oe] at P S
   rw [<-kq] at P S
   exact Q E P S
theorem Pm:zE c 6:=λX kq Z Q vs b h I r C=>by
 replace h:=qG h;obtain ⟨x0,rfl,h⟩:=h
 replace h:=xn h;obtain ⟨a,ps,rfl,e,h⟩:=h
 refine jj vs C.one λv G=>?_
 have:=gN G;clear C G;subst this
 refine gj h λU m hk M=>?_
 refine gq (r.isList e) λkm k g q l il hz=>?_
 have t:b.heap.get? b.heap.objs.size=none:=ik _
 refine callType_codes (Q₁:=λy j=>y= .ref b.heap.objs.size/\j={b with heap:=b.heap.push {cls:=.type "dict",data:=.dict #[]}}) F.kt_called_dict (F.kt_typeCall_dict_1 _) F.entry_dict_init (kt_code_dict_new _ ⟨rfl,rfl⟩) ?_
 intro y j S;refine Qm y S λz=>?_
 have u:fI b j:=by rw [z];exact jw _ _
 have w:j.heap.DictAt (t7 c) b.heap.objs.size [] 0:=by rw [z];exact nY _ (#[]) (eW _ rfl) ⟨rfl,rfl,rfl⟩ rfl (by intro e he;simp at he) .nil eI
 generalize kx:b.heap.objs.size=D at t w
 obtain ⟨R,kn,V⟩:=r.L8 (o:=.dict []) u t (.dict (.int w .nil rfl) (fy _)) (by (repeat intro _);contradiction)
 have H:a≠D:=λq=>by subst q;rw [t] at g;contradiction
 have E:=w.dictOf.typeIs (s:=j)
 refine iz E (F.args_dict_init_2 _ _) ?_
 unfold vX.«dict.__init__»
 refine b5 ?_
 unfold Ur
 refine b5 (wK E ?_)
 show gc _ _ (pure (D,[K7 a])) _ _ _
 refine dk ?_
 show gc _ _ (zw "dict.__init__" D (.ref a) [] .none) _ _ _
 unfold zw
 have N:(Z.set D (.dict [])) a=some (.list ps):=by rw [gw H];exact e
 have n:=u.keep _ _ g
 refine b5 (so (T:="list") (ej _ n rfl) ?_)
 rw [if_pos (by decide)]
 refine b5 (wh n I.handled λd f=>?_)
 simp only [H9,if_true]
 refine b5 (nF ?_)
 have L:=kn.grow f
 have W:d.heap.IsList a km:=sY _ (f.keep _ _ n) rfl _ rfl
 refine b5 (BG W ?_)
 have B:=jw d {cls:=.type "list_iterator",data:=.fields #[.ref a,.int 0 0]}
 have x:d.heap.get? d.heap.objs.size=none:=ik _
 have O:b.heap.get? d.heap.objs.size=none:=by
  induction e:b.heap.get? d.heap.objs.size using d_ with
  |none=>rfl
  |some ku=>rw [f.keep _ _ (u.keep _ _ e)] at x;contradiction
 refine iK (L.kh x) λP kl=>?_
 refine dk ⟨VU pk _,?_⟩
 refine Mw (L:=X.in1) (j:=ps) H I.handled kl O U (u:=0) (a:=[]) (gX _ _ _) N (λp m=>by exact (eg m).elim) m (λp Y=>hk p Y) ?_ (L.grow B) (V.trans (.grow (f.trans B))) ?_ P ?_
 .have:=congrArg fj m
  rw [bb] at this
  simp only [qJ];exact n1 ((iW _).trans this.symm) l
 .exact .list (gr _ (eW _ rfl) rfl rfl) (λq=>by
   have:=f.keep _ _ n
   rw [q,x] at this;contradiction)
 .intro s' K J
  rw [Oe] at K J
  exact ⟨rfl,.ref D,_,.ref D,K,J,M D R⟩
theorem Rx (a:gV c):Mt c
 |0=>Rf a
 |1=>J0 a
 |2=>Rg
 |3=>Rh
 |4=>L6
 |5=>L7
 |6=>Pm
 |7=>Rk
 |8=>Ri
 |9=>Rj
 |10=>O4
 |_+11=>λ_ b _ _ _ _ h=>by contradiction<;>exact h.elim
structure xr (B:Base):Prop where
 hd:CodeHd B.h₀ B.lc B.tab
 bt:B.h₀.BuiltinsAt B.mg B.tab
 gt:iD≠B.tab
 Hc:B.Hc=B.EW++("<lambda>":j7)
theorem Hs (l:List eH) (h:SJ l) (a:yS aa (l++[KZ p,KZ aB,J])=some aT):yS aa l=some aT\/aT=J:=by
 fun_induction SJ l with
 |case1=>
  simp only [BB,yS,KZ] at a
  split at a
  .obtain rfl:=d5 a;exact .inr rfl
  .contradiction
 |case2 p t aB u x d c=>
  simp only [iI,yS] at a⊢
  split at a
  .rename_i b;rw [if_pos b];exact .inl a
  .rename_i b;rw [if_neg b];exact c h a
 |case3 l f e=>exact h.elim
theorem Pn (x:H.BuiltinsAt bu z) (k:∀b o,b≠z->H.get? b=some o->b8.get? b=some o):b8.BuiltinsAt bu z:=
 iP x λg o c f e a d h=>(nY g o c f e a (k _ _ a d) h)
noncomputable def uL (B:Base) (a:yW) (b:gf) (sc:En) (cv:eH):Obj:=
 {cls:=.type "function",data:=.func (kla_fn "<lambda>" B.Hc a b sc [] ((B.mg "__name__").getD .none) cv .none)}
variable {cI:yW}
theorem Mx (HB:gV c) (A:xr c) (r:R c b m) (kq:ab.globals=iD) (G:ab.code= .ref c.lc) (kz:GV aJ ab=pure []) (h:∀f l j,m.heap.get? f=none->l.heap.get? f=some (uL c cI a0 aJ j)->uy l.heap j c.Hc->R c b l->St c b m b l->aG (.ref f) l):
 WE c L (makeTail "<lambda>" c.Hc cI (.expr a0) aJ ab .none .none none aa a) aG m:=by
 refine gj r.tab λps y u H=>?_
 have C:=A.hd.keeps r.old
 have z:=HB.g.keeps r.old
 have km:=Pn A.bt λa0 o _ e=>r.old a0 o e
 refine qW km λbm ob Y=>Cc Y λF M kG kx U O T I=>?_
 unfold makeTail
 rw [kz,kq]
 refine b5 (dk ?_)
 simp only [N9,if_true]
 refine b5 (dk ?_)
 induction B:yS aa ps.toList using d_ with
 |some j=>
  refine b5 (wpAny_functionCode_hit G (C.code y u) B ?_)
  refine b5 (R7 z F M U O T I ?_)
  refine b5 (Yq z ?_)
  refine b5 (dk (ko ?_ (by size_fits)))
  have g:=jw m (uL c cI a0 aJ j)
  exact h _ _ j (ik _) (eW _ rfl) ((H _ _ B).mono λcI o e _=>fo _ e) (r.grow g) (.grow g)
 |none=>
  refine b5 (wpAny_functionCodeX G (C.code y u) (C.tab y) B λd i tk D ky ku _ W kD kC=>?_)
  have J:=z.extBut D A.gt
  refine b5 (R7 J F M (D _ _ kx U) O T I ?_)
  refine b5 (Yq J ?_)
  refine b5 (dk (ko ?_ (by size_fits)))
  obtain ⟨P',kH,-,⟨N,vc,P,X,K,-⟩,-⟩:=kC
  refine yb W λkK kI vs t E s kl hv=>?_
  (injection E with E;subst E)
  rw [P] at s;(injection s with s;subst s)
  have fz:f_ N:=iz (.inr (.inr X)) (λes ep=>(by rw [K];exact (by (repeat intro _);contradiction))) (λv=>(by rw [K];exact (by (repeat intro _);contradiction)))
  have k:∀n o,n≠c.tab->m.heap.get? n=some o->(i.push (uL c cI a0 aJ (.ref d))).get? n=some o:=λn o hb e=>fo _ (D n o hb e)
  have V:∀p o,m.heap.get? p=some o->f_ o->(i.push (uL c cI a0 aJ (.ref d))).get? p=some o:=λp o e f=>k p o (λq=>by rw [q,y] at e;(injection e with e;subst e);exact LG _ f) e
  have kB:(i.push (uL c cI a0 aJ (.ref d))).get? c.tab=some (K5 (ps++#[KZ aa.line,KZ aa.col,.ref d])):=fo _ kD.2
  have h0:c.h₀.get? c.tab=none:=r.new _ (.inr (.inr rfl))
  have ne:∀{p o},b p=some o->p≠c.tab:=λe q=>by rw [q,r.vB] at e;contradiction
  have S:uy (i.push (uL c cI a0 aJ (.ref d))) (.ref d) c.Hc:=⟨d,N,vs,t,rfl,(fo _ P),fz,kl,hv⟩
  have kn:m.heap.get? i.objs.size=none:=get?_none_of_le (by exact a_ ky (eA ku))
  refine h i.objs.size _ (.ref d) kn (eW _ rfl) S ⟨λp o e=>?_,λp o e=>?_,r.new,r.Cq,r.vB,(gr _ kB ?_ (λkJ j w=>?_)),r.gens,r.os⟩ ⟨λp o e nf=>k p o (λq=>nf (.inr (.inr q))) e,λp f=>.inl f⟩
  .refine (r.objs p o e).mono V (λx=>k p x (ne e)) λkF Q Z q=>?_
   subst q
   exact λx=>k Q x (r.Cq p kF Q Z e).2.1
  .exact k p o (λq=>by rw [q,h0] at e;contradiction) (r.old p o e)
  .rw [oC]
   exact TriplesOk_snoc _ _ _ _ u
  .rw [oC] at w
   rcases Hs _ u w with w |rfl
   .exact (H _ _ w).mono V
   .exact S
theorem J8 (h:Ha aJ d4=true):∃x u,d4=[⟨x,none,u⟩]/\slots aJ.names=[x]/\h_ aJ.names x=some .local:=by
 match d4,h with
 |[⟨x,c,u⟩],h=>
  simp only [Ha,eV,decide_eq_true_eq,BK] at h
  obtain ⟨⟨rfl,b⟩,a⟩:=h
  exact nu x u rfl b a
theorem zh (h:Co cI aJ=true):∃x u,cI=⟨[],[⟨x,none,u⟩],none,[],[],none,[]⟩/\Dp aJ=true/\(∀y,(y,fD)∉aJ.names)/\slots aJ.names=[x]/\h_ aJ.names x=some .local:=by
 unfold Co at h
 simp only [eV,qa,BK] at h
 obtain ⟨⟨⟨⟨⟨⟨⟨⟨g,c⟩,a⟩,f⟩,d⟩,e⟩,l⟩,k⟩,b⟩:=h
 obtain ⟨o,m,q,r,kd,p,n⟩:=cI
 dsimp only at g c a f d e b
 subst g c a f d e
 refine v8 m (J8 b) λx u i j=>?_
 exact qV x u rfl l (we k) i j
theorem My {a:List (j7×gY)} (h:∀y,(y,fD)∉v):qB cj v a=a:=by
 induction v with
 |nil=>rfl
 |cons p r b=>
  obtain ⟨x,k⟩:=p
  have c:k≠.free:=λq=>h x (by rw [q];exact .head _)
  rw [qB,if_neg c]
  exact b λy d=>h y (.tail _ d)
theorem Mz (t:gV c) (d:xr c) (F:FR c ab v e b m) (r:R c b m) (p:BN v=true) (j:Co cI aJ=true) (h:∀f a g,m.heap.get? f=none->a.heap.get? f=some (uL c cI a0 aJ g)->uy a.heap g c.Hc->R c b a->St c b m b a->aG (.ref f) a):
 WE c L (vU (.Lambda cI a0 aJ aa) ab) aG m:=by
 refine gq (zh j) λx u l z i q n=>?_;clear j z q n;subst l
 refine iK (F.code p) λo w=>?_
 have s:GV aJ ab=pure []:=by
  rw [vO λy k=>absurd k (i y),My i]
 refine kla_eval rfl ?_
 rw [w,<-d.Hc,makeFunction_eq]
 simp only [List.zip_nil_right,List.filterMap_nil,N9,if_true,pure_bind]
 exact Mx t d r F.ok.globals o s h
theorem MA (HB:gV c) (V:Co cI aJ=true) (hb:SE c a aJ.names a0 g) (ho:m.heap.get? z=some (uL c cI a0 aJ J)) (kD:uy m.heap J c.Hc) (r:R c b m) (q:RV c m.heap aT l) (kB:L.depth<recursionLimit) (hr:∀I,mP a (L.deeper I)) (h:VE PG (eE PG a) g [some l] b n):WE c L (nC (.ref z) [aT] []) (k4 c b m n) m:=by
 refine gq (zh V) λy u Y kK ku U km=>?_;clear V;subst Y
 refine iK (DF kK) λkx kG=>?_
 refine qk (q6 kx) λk1 k2 k3 G k5=>?_
 obtain ⟨j,oc,kq,t,rfl,kl,-,kF,F⟩:=kD
 have X:m.heap.CodeRec (.ref j) c.Hc:=vb j oc kq t rfl kl kF F
 refine QP ?_
 refine kla_callFunE kB ho rfl k3 k2 rfl X ?_
 refine IP (d4:=[⟨y,none,u⟩]) (az:=[]) (a:=[]) rfl (by simp) (λF=>dk (F none rfl)) (by simp) (by simp) (by simp) ?_
 refine er (AD (c:=c) (L:=L.in1) (m:=m) (Q:=λI v=>v.heap.NoLimit/\sq (hU c.prog c.w) L (.expr a0 I) (λr N=>match r with | .ok (.ret aT)=>k4 c b m n aT N | .ok _=>False | .error e=>Vt e N) v) G ?_) (λ_ _ q=>q) λ_ _ e=>e.elim
 intro H D kI M
 have kM:FR c (vT aJ H iD D (c.Hc++".<locals>.") (some z) (.ref j) none j0) aJ.names (gm (slots aJ.names).length none) b kI:=by
  refine DG r G M _ rfl rfl k1 rfl rfl (λl k f=>.inl ?_) k5 (λl f=>absurd f (ku l)) (λl j f=>by contradiction) (λl y j f=>by contradiction) (λi l aT hi K=>?_) (by simp) λkC=>by rw [kG] at kC;contradiction
  .show pe l aJ.names=some k
   rw [<-sy];exact f
  .rw [tK] at K
   split at K<;>first |contradiction |(injection K;contradiction)
 have kJ:=r.grow M.grow
 have Z:[y].map (om aJ.names)=[0].map some:=by
  simp only [eG,pD,ix,and_true]
  unfold om
  rw [km]
  show r5 _ y=_;rw [U,Ck];exact if_pos rfl
 refine ze (j:=[y]) (l:=[0]) (f:=[aT]) (a:=[l]) Z kM kJ (.cons (q.grow M.grow) .nil) rfl λv S W O=>⟨zg HB W,?_⟩
 have T:∀d o,m.heap.get? d=some o->¬Own aJ.names (vT aJ H iD D (c.Hc++".<locals>.") (some z) (.ref j) none j0) d:=λd o e w=>by
  rcases w with w |⟨l,f,E⟩
  .have w:d=H:=w
   rw [w,M.fresh] at e;contradiction
  .have E:D.lookup l=some d:=E
   refine gj (M.own l ((jT G).mp f)) λc' p h2 _=>?_
   rw [E] at p;(injection p with p;subst p)
   rw [h2] at e;contradiction
 refine kla_codeExpr ?_
 have hm:pF (gm (slots aJ.names).length none) [0] [l]=[some l]:=by rw [U];rfl
 rw [hm] at S
 refine er (hb (L.deeper _) _ _ b v n (hr _) S W h) (λw kN ζ=>?_) λ_ _ e=>e.elim
 obtain ⟨kz,kn,qz,kH,P,hz⟩:=ζ
 refine ⟨kz,kn,qz,kH,⟨λd o e x=>P.keep d o (O.keep d o (M.grow.keep d o e) x (T d o e)) x,λd ky=>?_⟩,hz⟩
 rcases P.foot d ky with C |C
 .exact .inl C
 .induction e:m.heap.get? d with
  |none=>exact .inr rfl
  |some o=>
   refine .inl (gh λx=>?_)
   rw [O.keep d o (M.grow.keep d o e) x (T d o e)] at C
   contradiction
structure wi (B:Base) (st:AS) (a:gY) (s s':eL):Prop where
 r:R B st s'
 keep:∀b o,s.heap.get? b=some o->b≠a->¬ic B st b->s'.heap.get? b=some o
theorem wi.frozen (x:wi c b z m ae) (r:R c b m) (d:∀o,m.heap.get? z=some o->¬f_ o):∀p o,m.heap.get? p=some o->f_ o->ae.heap.get? p=some o:=λp o e f=>
 x.keep p o e (λq=>d o (q▸e) f) λq=>by
  refine eS (r.oD q) λg a n=>?_
  rw [e] at a;obtain rfl:=d5 a;exact n f
theorem wi.step (x:wi c b z m ae) (y:St c b ae b aZ) (r:R c b aZ):wi c b z m aZ:=⟨r,λa o e f d=>y.keep a o (x.keep a o e f d) d⟩
theorem wi.but (x:wi c b z m ae) (f:vM aV ae aZ) (i:¬ic c b aV) (k:c.h₀.get? aV=none) (h:∀o,ae.heap.get? aV=some o->¬f_ o) (a:aV=z\/m.heap.get? aV=none):wi c b z m aZ:=
 ⟨x.r.but f i k h,λg o e d j=>f.keep g o (λq=>by
  rcases a with a |a
  .exact d (q.trans a)
  .rw [q,a] at e;contradiction) (x.keep g o e d j)⟩
theorem MB (q:hX c H aj j) (p:RV c H J l):hX c H (aj++[J]) (j++[l]):=q.append (.cons p .nil)
theorem Fv {k:AV->AV} {P:Um->eL->Prop} (r:R c b m) (B:m.heap.get? z=some (gu "list" aj.toArray a)) (kq:¬ic c b z) (kn:c.h₀.get? z=none) (t:aj.length<6) (T:L.units+60<vy) (q:hX c m.heap aj j) (hs:qX (j.map k)) (hc:(j.map k).Pairwise gW) (kx:∀(i:Nat) v x d,aj[i]? =some v->j[i]? =some x->wi c b z m d->RV c d.heap v x->WE c L (nC J [v] []) (k4 c b d λy l=>y=k x/\l=b) d) (h:∀(p:Array Nat) d lz,Fm aj.length p->yo (rk (j.map k)) p aj.length->wi c b z m d->d.heap.get? z=some (listOf (jf (p.toList.map λi=>aj.getD i jn)) lz)->P (.done (.ret .none)) d):
 gc (hU c.prog c.w) L (ksk_tree z J false) P aG m:=by
 have hz:=nD
 have A:=q.length
 have Y:∀o,m.heap.get? z=some o->¬f_ o:=λo e=>by rw [B] at e;(injection e with e;subst e);exact qF _ _
 obtain ⟨D,kF⟩:∃D,(m.heap.update z (fK λ_=>(#[]:Array eH))).get? z=some (gu "list" #[] D):=oK _ (rU B λ_=>#[])
 have kM:=gK m.heap z (fK λ_=>(#[]:Array eH))
 unfold ksk_tree
 refine b5 (K9 B rfl ?_)
 refine b5 (rr B rfl ?_ (by rw [j4];exact Ol t) (fy _))
 refine b5 (Eu kF rfl ?_)
 refine b5 (UU ?_ (by show aj.length<=_;exact Ol t))
 refine b5 (zL ?_ (fy _))
 refine f6 ?_
 show gc _ L _ P aG {m with heap:=((m.heap.update z (fK λ_=>(#[]:Array eH))).push (gu "tuple" aj.toArray 0)).push (gu "list" #[] 0)}
 have kO:(((m.heap.update z (fK λ_=>(#[]:Array eH))).push (gu "tuple" aj.toArray 0)).push (gu "list" #[] 0)).get? z=some (gu "list" #[] D):=fo _ (fo _ kF)
 have K:vM z m {m with heap:=((m.heap.update z (fK λ_=>(#[]:Array eH))).push (gu "tuple" aj.toArray 0)).push (gu "list" #[] 0)}:=
  ⟨λkW o K e=>fo _ (fo _ ((kM.2 kW K).trans e)),rfl,rfl⟩
 have kK:(((m.heap.update z (fK λ_=>(#[]:Array eH))).push (gu "tuple" aj.toArray 0)).push (gu "list" #[] 0)).get? ((m.heap.update z (fK λ_=>(#[]:Array eH))).push (gu "tuple" aj.toArray 0)).objs.size=some (gu "list" #[] 0):=eW _ rfl
 have E:m.heap.get? ((m.heap.update z (fK λ_=>(#[]:Array eH))).push (gu "tuple" aj.toArray 0)).objs.size=none:=by
  refine get?_none_of_le ?_
  rw [rD,Heap.size_update];exact eh m.heap.objs.size 1
 generalize kT:((m.heap.update z (fK λ_=>(#[]:Array eH))).push (gu "tuple" aj.toArray 0)).objs.size=kS at kK E
 generalize kJ:({m with heap:=((m.heap.update z (fK λ_=>(#[]:Array eH))).push (gu "tuple" aj.toArray 0)).push (gu "list" #[] 0)}:eL)=Z at K⊢
 have kz:Z.heap.get? z=some (gu "list" #[] D):=by rw [<-kJ];exact kO
 have kG:Z.heap.get? kS=some (gu "list" #[] 0):=by rw [<-kJ];exact kK
 have U:wi c b z m Z:=(⟨r,λkW o e _ _=>e⟩:wi c b z m m).but K kq kn Y (.inl rfl)
 refine iK (r.kh E) λkm kI=>?_
 have kC:kS≠z:=λe=>by rw [e,B] at E;contradiction
 clear kJ kO kK kM kF
 unfold ksk_rest
 refine b5 (nF ?_)
 rw [List.forIn_toArray]
 refine b5 (ksk_fold (λi d=>wi c b z m d/\d.heap.get? z=some (gu "list" #[] D)/\∃f e,d.heap.get? kS=some (gu "list" f e)/\hX c d.heap f.toList ((j.map k).take i)) aj 0 Z
  (rH U kz (#[]) 0 kG .nil) ?step ?done)
 case step=>
  clear B kn T hs hc h hz kT K kz kG U;intro C v d hv kU;refine oJ kU λH S f e N u=>?_
  simp only [iW] at u⊢
  have W:C<aj.length:=(ew.mp hv).1
  clear kU;obtain ⟨x,hx⟩:∃x,j[C]? =some x:=oK _ (dj (by exact fC W A))
  have qv:RV c d.heap v x:=by
   refine eS (q.get hx) λv' kl p=>?_
   rw [hv] at kl;(injection kl with kl;subst kl)
   exact p.mono (H.frozen r Y)
  have n:=u.length
  rw [eB,fS] at n
  refine b5 (wpAny_attempt (er (kx C v x d hv hx H qv) (λw F ζ=>?_) λ_ _ hF=>hF.elim))
  clear q kx A Y hv qv;obtain ⟨y,l,qy,lj,X,hy,kY⟩:=ζ
  subst hy kY
  have H':=H.step X lj
  have na:=X.keep _ _ S kq
  have nk:=X.keep _ _ N km
  have kX:=u.step H.r X
  dsimp only
  have V:=gK F.heap kS (fK (·.push w))
  obtain ⟨c2,lu⟩:∃c2,(F.heap.update kS (fK (·.push w))).get? kS=some (gu "list" (f.push w) c2):=oK _ (rU nk (·.push w))
  have bk:vM kS F {F with heap:=F.heap.update kS (fK (·.push w))}:=yn V
  have O:∀o,F.heap.get? kS=some o->¬f_ o:=λo e=>by rw [nk] at e;(injection e with e;subst e);exact qF _ _
  refine b5 (rr nk rfl ?_ (by exact TL t W n) (a_ (gv (Array.size_push ..)) (by exact fh (TL t W n))))
  refine dk ⟨rfl,(H'.but bk km kI O (.inr E)),((V.2 z kC.symm).trans na),(f.push w),c2,lu,?_⟩
  rw [sm]
  have ek:(j.map k).take (C+1)=(j.map k).take C++[k x]:=by rw [K_,ee,hx];rfl
  rw [ek]
  exact MB (kX.but bk O) (qy.but bk O)
 case done=>
  intro g kN;refine oJ kN λH S f e N u=>?_
  have e3:(j.map k).take (0+aj.length)=j.map k:=m_ (by rw [bb];exact gv (A.symm.trans (iW _).symm))
  rw [e3] at u
  have n:=u.length
  rw [eB,bb] at n
  refine b5 (K9 N rfl ?_)
  have O:∀o,g.heap.get? kS=some o->¬f_ o:=λo e=>by rw [N] at e;(injection e with e;subst e);exact qF _ _
  have kV:Ml c L z f.toList (rk (j.map k)) g:=Fo T u hs hc λo e=>by rw [S] at e;(injection e with e;subst e);exact qF _ _
  have kQ:∀(p:Array Nat) (l:SortSt),Fm aj.length p->yo (rk (j.map k)) p aj.length->(arrOf l).map (·.2)=jf (p.toList.map λi=>aj.getD i jn)->U7 l=none->gc (hU c.prog c.w) L (ksk_tail z false D (.ref kS) l) P aG g:=by
   intro p l I kB ky lq
   unfold ksk_tail
   have ly:(jf (p.toList.map λi=>aj.getD i jn)).size=aj.length:=by rw [j4,bb,eB,I.size]
   have V:=gK g.heap kS (fK λ_=>(#[]:Array eH))
   have Sj:(g.heap.update kS (fK λ_=>(#[]:Array eH))).get? z=some (gu "list" #[] D):=(V.2 z kC.symm).trans S
   have bk:vM kS g {g with heap:=g.heap.update kS (fK λ_=>(#[]:Array eH))}:=yn V
   have H1:=H.but bk km kI O (.inr E)
   have lg:=gK (g.heap.update kS (fK λ_=>(#[]:Array eH))) z (fK λ_=>jf (p.toList.map λi=>aj.getD i jn))
   have b2:vM z {g with heap:=g.heap.update kS (fK λ_=>(#[]:Array eH))} {g with heap:=(g.heap.update kS (fK λ_=>(#[]:Array eH))).update z (fK λ_=>jf (p.toList.map λi=>aj.getD i jn))}:=yn lg
   have U:=H1.but b2 kq kn (λo e=>by rw [Sj] at e;(injection e with e;subst e);exact qF _ _) (.inl rfl)
   rw [ky]
   dsimp only
   refine b5 (rr N rfl ?_ (by exact n1 (n.trans A.symm) (Ol t)) (fy _))
   refine b5 (Ys ?_)
   refine b5 (Eu Sj rfl ?_)
   refine b5 (rr Sj rfl ?_ (fy _) (by simp only [fX,if_false];exact n1 ly (fZ (Ol t))))
   rw [lq]
   simp only [bne_self_eq_false,fX,if_false]
   exact dk (h p _ _ I kB U (rU Sj λ_=>jf (p.toList.map λi=>aj.getD i jn)))
  unfold ksk_end
  simp only [fX,if_false]
  have kD:f=f.toList.toArray:=by simp
  clear kN;by_cases s:aj.toArray.size<2
  .rw [if_pos s,if_pos s]
   refine b5 (dk ?_)
   rw [StateT.run_pure]
   refine b5 (dk ?_)
   have s:aj.length<2:=by simpa using s
   refine kQ (eQ aj.length).toArray _ (by unfold Fm;simp) (λi C lr W=>by rw [show i=C by exact V1 s lr W];exact eJ _) ?_ rfl
   have M:f.toList.length=aj.length:=by rw [eB];exact n.trans A.symm
   refine Ow M ?_
   have e:=kas_range (f.toList.toArray.zip aj.toArray)
   rw [show (f.toList.toArray.zip aj.toArray).size=aj.length by simp [n];exact tW (gv A)] at e
   show f.zip aj.toArray=_
   rw [e,<-kD]
  .rw [if_neg s,if_neg s]
   have kH:2<=aj.length:=by simpa using s
   rw [kD]
   have M:f.toList.length=aj.length:=by rw [eB];exact n.trans A.symm
   refine b5 (er (kV (by exact Vb kH M) g ⟨λ_ _ _ e=>e,rfl,rfl⟩) (λκ s4 ζ=>?_) λ_ _ e=>e.elim)
   clear r B kq kn q hs hc kx h hz A Y kT E K kz kG U km kI kC H S N u e3 n O kV kD s;refine iK ζ λkZ ku=>?_
   clear ζ;subst kZ
   rw [M] at ku
   refine b5 (er (kat_run (ks:=f.toList) (vs:=aj) (Q:=λl d=>∃p,Fm aj.length p/\yo (rk (j.map k)) p aj.length/\arrOf l=p.map (kas_item (f.toList.toArray.zip aj.toArray))/\U7 l=none/\d=s4) (G:=λp d=>Fm aj.length p/\yo (rk (j.map k)) p aj.length/\d=s4) M kH (by exact gG t (by decide))
    (λp l d _ a2 a3 a4=>⟨p,a4.1,a4.2.1,a2,a3,a4.2.2⟩) (IL ku (by exact t) λp I T=>(iz I T rfl))) ?_ λ_ _ e=>e)
   clear t T kH ku;intro lx d kP;obtain ⟨⟨⟩,l⟩:=lx;refine zS kP λp I kB ky hf lh=>?_
   clear kP;subst lh
   exact kQ p l I kB (Ow M ky) hf
theorem R.TV (r:R c b m) (j:¬ic c b z) (v:c.h₀.get? z=none) (t:RO c m.heap z ay) (o:∀i s g,ay≠.inst i s g):
 b.free z/\R c (b.set z ay) m/\∀d,ic c (b.set z ay) d->ic c b d\/d=z:=by
 have n:b.free z:=⟨by
  induction e:b z with
  |none=>rfl
  |some w=>exact absurd (.inl (by rw [e];simp)) j,λd i g e=>j (.inr (.inl (qA d i g e)))⟩
 have p:z≠c.tab:=λe=>j (.inr (.inr e))
 have u:∀d,ic c (b.set z ay) d->ic c b d\/d=z:=by
  clear r j v t n p;rintro d (h |⟨a,i,g,h⟩ |h)
  .by_cases k:d=z
   .exact .inr k
   .rw [gw k] at h;exact .inl (.inl h)
  .by_cases f:a=z
   .subst f;rw [gX] at h;(injection h with h;subst h);exact absurd rfl (o _ _ _)
   .rw [gw f] at h;exact .inl (.inr (.inl (qA a i g h)))
  .exact .inl (.inr (.inr h))
 refine iz n ⟨λa w e=>?_,r.old,λd k=>?_,λa i s g e=>?_,?_,r.tab,r.gens,r.os⟩ u
 .clear j v o n p u;by_cases f:a=z
  .clear r;subst f;rw [gX] at e;(injection e with e;subst e);exact t
  .rw [gw f] at e;exact r.objs a w e
 .clear j t o n p;rcases u d k with h |rfl
  .exact r.new d h
  .exact v
 .have f:a≠z:=λq=>by subst q;rw [gX] at e;(injection e with e;subst e);exact absurd rfl (o _ _ _)
  rw [gw f] at e
  refine mW (r.Cq a i s g e) λA y B=>?_
  have x:s≠z:=λq=>n.2 a i g (q▸e)
  refine iz (by rw [gw x];exact A) y (λd D C l=>?_)
  clear r j v t n p u e f A y x;by_cases k:d=z
  .subst k;rw [gX] at l;(injection l with l;subst l);exact absurd rfl (o _ _ _)
  .rw [gw k] at l;exact B d D C l
 .rw [gw (nA p)];exact r.vB
theorem J9 (r:R c b m) (x:wi c b z m ae) (g:m.heap.get? z=none) (l:RO c ae.heap z ay) (p:∀d u t,ay≠.inst d u t) (h:∀d,b.free d->n (.ref d) (b.set d ay)):k4 c b m n (.ref z) ae:=by
 refine iK (r.kh g) λo s=>?_
 refine mW (x.r.TV o s l p) λf a k=>?_
 refine ⟨.ref z,_,.ref z,a,⟨λj ay e i=>x.keep j ay e (λq=>by rw [q,g] at e;contradiction) i,λj i=>?_⟩,h z f⟩
 clear r x l p o s f a;rcases k j i with h |rfl
 .exact .inl h
 .exact .inr g
theorem Po:JD=(iV "key"):=by unfold JD;decide+kernel
theorem DL:h_ GG ve=some (.bi 1):=by kernel_rfl
variable {dT:List h}
theorem Ht (d:∀x∈dq,∀y∈dT,dA x=dA y->x=y) (c:dq.map dA=dT.map dA):dq=dT:=by
 induction dq generalizing dT with
 |nil=>exact (jt.mp c.symm).symm
 |cons x dq f=>
  induction dT using el with
  |nil=>contradiction
  |cons y dT=>
   refine iK (fq c) λi e=>?_
   rw [d x (.head _) y (.head _) i,f (λa j b g=>d a (.tail _ j) b (.tail _ g)) e]
theorem TX {c:AV->AV} (g:j.length=a) (m:Fm a cm) (E:yo (rk (j.map c)) cm a) (A:qX (j.map c)) (u:j.Pairwise λd b=>Lt (c d) (c b)\/Lt (c b) (c d)) (o:aN.Perm j) (D:aN.Pairwise λd b=>Lt (c d) (c b)):(cm.toList.map λi=>j.getD i .none)=aN:=by
 have s:=pP A
 have C:(j.map c).Pairwise gW:=gi.mpr (u.imp λh=>h.elim .inl λh=>.inr (.inr h))
 have t:∀i∈cm.toList,i<a:=λi f=>eU.mp (m.mem_iff.mp f)
 have l:(cm.toList.map λi=>j.getD i .none).Perm j:=CC (aj:=gm a jn) (by rw [pV];exact m) (by rw [pV];exact g)
 have e:(cm.toList.map λi=>j.getD i .none).map c=cm.toList.map λi=>(j.map c).getD i .none:=by
  rw [et]
  refine fm λi f=>?_
  have:=t i f
  show c (j.getD i .none)=_
  rw [jY (by exact fC (t i f) (id (rG g))),jY (by rw [bb];exact fC (t i f) (id (rG g))),zM]
 have B:((cm.toList.map λi=>j.getD i .none).map c).Pairwise λd b=>Lt d b\/d=b:=by
  rw [e]
  exact zd (a:=a) (by rw [bb];exact g) m E s C
 have H:(cm.toList.map λi=>j.getD i .none).map c=aN.map c:=by
  refine r_ (r:=λd b=>(Lt d b\/d=b)/\oO 4 d) (λd b F J=>xq F.2 F.1 J.1) ((l.trans o.symm).map c) ?_ ?_
  .exact B.imp_of_mem λw _ h=>⟨h,s _ ((l.map c).mem_iff.mp w)⟩
  .refine gi.mpr (D.imp_of_mem λw _ h=>⟨.inl h,s _ ?_⟩)
   exact ck.mpr ⟨_,o.mem_iff.mp w,rfl⟩
 have I:∀x∈j,∀y∈j,c x=c y->x=y:=by
  intro x p y k z
  obtain ⟨i,f,rfl⟩:=qR p
  obtain ⟨v,G,rfl⟩:=qR k
  have h:=oA.mp u
  rcases zx i v with q |q |q
  .have:=h i v f G q
   rw [z] at this
   exact (this.elim Si Si).elim
  .clear g m E A u o D s C t l e B H p k z h;subst q;rfl
  .have:=h v i G f q
   rw [z] at this
   exact (this.elim Si Si).elim
 exact Ht (λx p y k=>I x (l.mem_iff.mp p) y (o.mem_iff.mp k)) H
theorem MC (K:gV c) (HL:xr c) (S:2<=a) (H1:qn c 1):zV c a:=by
 intro ns f e lM kG b sc lp kp kx cb E kC kV kK hc kJ g t kD st s lA l F r h
 refine iK (kK c 1 K H1) λlB lj=>?_
 unfold yd at E
 rw [eV,decide_eq_true_eq,decide_eq_true_eq] at E
 obtain ⟨E,kX⟩:=E
 obtain ⟨fp,rfl⟩:=Cm E
 have kO:uw GG ns ve=some (.cst (.bi 1)):=AI (by unfold ve tc;decide+kernel) kX DL
 have hf:=xg (a:=a) K (aa:=fp) kO
 show WE c g (do let f <-vU (.Name ve fp) t;BH kx f [] (sW kx (nh [e] t)) (U2 kx (Ov [⟨some JD,.Lambda kG b sc lp,kp⟩] t))) _ s
 refine b5 (er (hf g t kD st s (λv Z=>v= .bi 1/\Z=st) l F r ⟨rfl,rfl⟩) ?_ λ_ _ e=>e)
 intro fv lI lu;obtain ⟨x,lh,Y,ky,kn,rfl,rfl⟩:=lu
 have lH:fv= .builtin "sorted":=by
  generalize j:AV.bi 1=z at Y
  induction Y using RV.casesOn with
  |bi a=>(injection j with j;subst j);rfl
  |_=>contradiction
 subst lH
 have kl:=F.step r kn
 have L:=vh hc t []
 refine Yx (P:=λ_=>True) (by rw [L];rfl) (λh _=>(ej .machine (.inr (.inl rfl)) (ny rfl))) ?_
 refine evalArgs_kw2 (by rfl) ?_ (he:=L)
 refine Wv (f5 (kJ g t kD lh lI _ l kl ky h) (λlx lL v kB qv M V hq=>Wu ?_)) L
 have kT:=kl.step ky V
 refine kwAll_cons ?_
 refine Mz K HL kT M kV kC λfa G cv kU U lE J W=>?_
 refine kwAll_nil ⟨trivial,?_⟩
 refine iK (M.kh kU) λlC lF=>?_
 show WE c g (nC (.builtin "sorted") [lx] [(JD,.ref fa)]) _ G
 rw [Po]
 have hu:=l.Ax
 have kP:=qv.step M W
 refine er (Q:=k4 c kB G lA) ?_ (λ_ _ p=>((p.trans W).trans V).trans kn) λ_ _ e=>e
 refine call_function_entry_kw Yz Ww Wx (ksk_s1 _ _) ?_
 unfold vX.«sorted»
 refine b5 (m:=YF "sorted" 1 1 _) (dk ?_)
 refine b5 (vP (L:=g.in1) K l.handled J kP hq λC xs d B N I hl=>?_)
 refine Li I λO kz kW km T ys ly=>mW ly λkq kH hQ=>?_
 have j:=N.length
 have lG:=nD
 refine b5 (zL ?_ (by exact n1 j (Ol O)))
 have u:=jw d (listOf C.toArray 0)
 show gc _ _ _ _ _ {d with heap:=d.heap.push (listOf C.toArray 0)}
 have D:({d with heap:=d.heap.push (listOf C.toArray 0)}:eL).heap.get? d.heap.objs.size=some (gu "list" C.toArray 0):=eW _ rfl
 have R:d.heap.get? d.heap.objs.size=none:=ik _
 generalize lg:({d with heap:=d.heap.push (listOf C.toArray 0)}:eL)=lD at u D
 generalize hp:d.heap.objs.size=p at D R
 have X:G.heap.get? p=none:=by
  induction e:G.heap.get? p using d_ with
  |none=>rfl
  |some q=>have:=B.keep _ _ e;rw [R] at this;contradiction
 have ku:=(J.grow B).grow u
 refine iK ((J.grow B).kh R) λkN kF=>?_
 have kQ:(xs.map kz).Pairwise gW:=gi.mpr (T.imp λh=>h.elim .inl λh=>.inr (.inr h))
 have lJ:fa≠p:=λe=>by rw [e,X] at U;contradiction
 have lK:=u.keep _ _ (B.keep _ _ U)
 have kY:∀q,lD.heap.get? p=some q->¬f_ q:=λq e=>by rw [D] at e;obtain rfl:=d5 e;exact qF _ _
 refine b5 (f6 (wpAny_call_entry_kw U5 (ej _ D rfl) UB ?_ (ksk_l1 _ _)))
 rw [ksk_t1]
 refine Fv (k:=kz) ku D kN kF (by exact S9 j O) (by show g.units+1+1+60<vy;exact ul 62 hu rfl) (N.grow u) km kQ (λi w x s' hw I H qw=>?_) λpm kZ cc kI lq H lz=>ej _ rfl ?_
 .have kM:x∈xs:=fi I
  have hv:=kW x kM (λy Z=>y=kz x/\Z=kB) ⟨rfl,rfl⟩
  clear HL H1 kV kK hc kJ E kX kO hf ky F h kn Y kl L qv M V hq kT kU U J W lF hu kP N hl O kW km T kq kH hQ j lG lg hp D R X kN kF kQ hw I kM;clear I;obtain ⟨n',rfl⟩:∃n',a=n'+1:=oK (a -1) (by exact Of S)
  refine MA K kC lB (H.keep _ _ lK lJ lC) ((lE.mono λkG q e _=>u.keep _ _ (B.keep _ _ e)).mono (H.frozen ku kY)) H.r qw ?_ (λt=>⟨?_,?_,l.handled⟩) (lj _ _ _ _ hv)
  .have:=l.depth;show g.depth<1000;exact r4 this
  .have:=l.depth;show g.depth+1+10*1<=900;exact (s5 (ak:=11) this S rfl:)
  .have:=l.units;show g.units+1+1+3+100*1<=9000;exact (s5 (ak:=105) this S rfl:)
 .refine dk (ej _ rfl ?_)
  have e:=TX (a:=C.length) j.symm kI lq km T kq kH
  have lr:wi c kB p G kZ:=⟨H.r,λb q e hb hn=>H.keep b q (u.keep _ _ (B.keep _ _ e)) hb hn⟩
  refine J9 J lr X (ay:=.list ys) (.list lz ?_ ?_) (by (repeat intro _);contradiction) hQ
  .rw [<-e]
   exact Fq ((N.grow u).mono (H.frozen ku kY)) λi hi=>eU.mp (kI.mem_iff.mp hi)
  .rw [kq.length_eq];unfold fF;exact a_ (eA O) (by decide)
theorem Ry (a:gV c) (f:AG Qz c) (b:xr c) (n:Nat):qn c n:=
 (Mu a (Rw a) f (Rx a) (λn e d _=>MC a b e d) n).1
noncomputable def TY:List Addr:=[21,35,42,49,56,61,82,89,96,118,123,128,133,140,147,161,168,173,187,192,214,228,235,242,249,255,262,269,276,283,290,297,304,309,323,328,342,347,354,361,368,373,380,394,401,408,415,429,436,443,450,457,464,471,485,492,499,506,513,525,532,546,553,565,570,577,592,599,606,613,618,632,639,644,649,656,661,666,671,676,683,688]
noncomputable def UQ:List Addr:=[64,99,150,195,217,331,418,516,556,621]
noncomputable def LC:Addr:=442
noncomputable def Ey:Addr:=438
noncomputable def yq (k:Nat):Addr:=TY.getD k 0
noncomputable def Pp (c:Nat):Addr:=UQ.getD c 0
theorem ps {o:Option (PLift y)} (h:o.isSome=true):y:=(o.get h).down
noncomputable def Rz:(x:Option (Option eH))->Option (PLift (x=some none))
 |some none=>some ⟨rfl⟩
 |_=>none
noncomputable def TZ (a:gY):(v:eH)->Option (PLift (v= .ref a))
 | .ref b=>if e:GY b a=true then some ⟨congrArg K7 (nI e)⟩ else none
 |_=>none
noncomputable def DM:(x:Option (Option eH))->Option {v // x=some (some v)}
 |some (some v)=>some ⟨v,rfl⟩
 |_=>none
noncomputable def zW (x:Option (Option eH)):Bool:=(Rz x).isSome
variable {d9:Option (Option eH)}
theorem wj (h:zW d9=true):d9=some none:=ps h
noncomputable def T3 (a:gY) (x:Option (Option eH)):Option (PLift (x=some (some (.ref a)))):=
 (DM x).bind λv=>(TZ a v.1).map λe=>⟨v.2.trans (congrArg (some∘some) e.down)⟩
noncomputable def Hu (a:gY) (x:Option (Option eH)):Bool:=(T3 a x).isSome
theorem CF (h:Hu z d9=true):d9=some (some (.ref z)):=ps h
noncomputable def Yk (n:String):(v:eH)->Option (PLift (v= .builtin n))
 | .builtin m=>if e:m=n then some ⟨congrArg C6 e⟩ else none
 |_=>none
noncomputable def VL (n:String) (x:Option (Option eH)):Option (PLift (x=some (some (.builtin n)))):=
 (DM x).bind λv=>(Yk n v.1).map λe=>⟨v.2.trans (congrArg (some∘some) e.down)⟩
noncomputable def MD (n:String) (x:Option (Option eH)):Bool:=(VL n x).isSome
theorem Fw {n:String} (h:MD n d9=true):d9=some (some (.builtin n)):=ps h
noncomputable def Pq (x:Option (Option eH)):Bool:=(DM x).isSome
noncomputable def Yl:(x:Option Bool)->Option (PLift (x=some false))
 |some false=>some ⟨rfl⟩
 |_=>none
noncomputable def T4 (x:Option Bool):Bool:=(Yl x).isSome
theorem Pr {x:Option Bool} (h:T4 x=true):x=some false:=ps h
noncomputable def DN (K:zr) (a:gY) (C:Qp):Bool:=
 MD "object.__getattribute__" (sX K (.ref a) "__getattribute__")&&zW (sX K (.ref a) "__getattr__")&&MD "object.__setattr__" (sX K (.ref a) "__setattr__")&&
 SH K a&&SI K a&&makesIn K a&&Hu (yq C.init) (sX K (.ref a) "__init__")&&isFn K (.ref (yq C.init))&&
 ((eQ AT.length).all λx=>zW (Wn K a (AT.getD x default))&&
  (match C.meths.lookup x with
   |none=>zW (sX K (.ref a) (AT.getD x default))
   |some f=>Hu (yq f) (sX K (.ref a) (AT.getD x default))&&isFn K (.ref (yq f))&&Pq (SG K (.ref (yq f)) "__get__")&&T4 (Wm K (.ref (yq f)))))
theorem J' (g:c.fa=yq) (h:DN c.K (c.ca a) bO=true):Iz c a bO:=by
 unfold DN at h
 simp only [eV] at h
 refine iK h λb y=>?_;refine iK b λb r=>?_;refine iK b λb q=>?_;obtain ⟨⟨⟨⟨⟨w,o⟩,n⟩,s⟩,m⟩,l⟩:=b
 have j:∀(x:Nat) d,AT[x]? =some d->_:=λx d e=>by
  have t:=(ew.mp e).1
  have:=k_.mp y x (eU.mpr t)
  rw [show AT.getD x default=d by rw [ec,e];rfl,eV] at this
  exact this
 refine ⟨Fw w,wj o,Fw n,s,m,l,by rw [g];exact CF q,by rw [g];exact r,λx d e=>wj (j x d e).1,λx d e i=>?_,λx d f e i=>?_⟩
 .have:=(j x d e).2
  rw [i] at this
  exact wj this
 .have:=(j x d e).2
  rw [i] at this
  simp only [eV] at this
  refine iK this λb k=>?_;refine iK b λb u=>?_;refine iK b λp v=>?_
  rw [g]
  refine ur (CF p) v ?_ (Pr k)
  exact oK _ ((DM _).get u).2
noncomputable def Ym:(o:Option YI)->Option {fd // ∃p,o=some p/\p.data= .func fd}
 |some ⟨a,b,.func fd,c⟩=>some ⟨fd,_,rfl,rfl⟩
 |_=>none
noncomputable def Pt (K:zr) (a:gY):Option FuncData:=(Ym (K.lookup a)).map (·.1)
theorem Pu (h:Pt aX z=some cZ):∃o,aX.lookup z=some o/\o.data= .func cZ:=
 eS (fW.mp h) λx _ e=>e▸x.2
noncomputable def Hv (K:zr) (fd:GW):Bool:=match fd.code with
 | .ref c=>(match K.lookup c with
  |some ⟨_,_,.fields vs,_⟩=>(match (vs[1]? :Option eH) with
   |some (.str q _)=>decide (q=fd.qualname)
   |_=>false)
  |_=>false)
 |_=>false
theorem J_ (X:aX.In H) (e:Hv aX cZ=true):H.CodeRec cZ.code cZ.qualname:=by
 unfold Hv at e
 generalize g:cZ.code=z at e⊢
 clear g
 induction z using p9 with
 |ref c=>
  have e:(match aX.lookup c with
   |some ⟨_,_,.fields a,_⟩=>(match (a[1]? :Option eH) with
    |some (.str q _)=>decide (q=cZ.qualname)
    |_=>false)
   |_=>false)=true:=e
  generalize b:aX.lookup c=o at e
  induction o using d_ with
  |none=>contradiction
  |some o=>
   obtain ⟨h,i,d,j⟩:=o
   induction d using Data.casesOn with
   |fields a=>
    have e:(match (a[1]? :Option eH) with
     |some (.str q _)=>decide (q=cZ.qualname)
     |_=>false)=true:=e
    generalize f:(a[1]? :Option eH)=v at e
    induction v using d_ with
    |none=>contradiction
    |some v=>induction v using p9 with
     |str q t=>exact vb c _ a t rfl (X _ _ b) rfl (of_decide_eq_true e▸f)
     |_=>contradiction
   |_=>contradiction
 |_=>contradiction
noncomputable def T5:(v:eH)->(x:AV)->Option (PLift (∀B h,RV B h v x))
 | .none,.none=>some ⟨λ_ _=>.none⟩
 | .bool b,.bool c=>if e:b=c then some ⟨λ_ _=>e▸.bool _⟩ else none
 | .int i _,.int j=>if e:i=j then some ⟨λ_ _=>e▸.int _ _⟩ else none
 | .str s _,.str l=>if e:s.cps.toList=l then some ⟨λ_ _=>e▸.str _ _⟩ else none
 |_,_=>none
noncomputable def QB:(vs:List eH)->(xs:List AV)->Option (PLift (∀B h,hX B h vs xs))
 |[],[]=>some ⟨λ_ _=>.nil⟩
 |v::vs,x::xs=>(T5 v x).bind λp=>(QB vs xs).map λq=>⟨λB h=>.cons (p.down B h) (q.down B h)⟩
 |_,_=>none
noncomputable def ME (v:eH) (x:AV):Bool:=(T5 v x).isSome
noncomputable def xt (vs:List eH) (xs:List AV):Bool:=(QB vs xs).isSome
theorem Ka (e:ME J l=true):RV c H J l:=ps e c H
theorem AK (e:xt aj j=true):hX c H aj j:=ps e c H
noncomputable def VM:(o:Option YI)->Option {items // ∃n,o=some (gu "tuple" items n)}
 |some ⟨.type T,none,.seq items n,⟨[]⟩⟩=>if e:T="tuple" then some ⟨items,n,e▸rfl⟩ else none
 |_=>none
noncomputable def xu (K:zr) (a:gY):Option (Array eH):=(VM (K.lookup a)).map (·.1)
theorem Fx (h:xu aX z=some bf):∃n,aX.lookup z=some (gu "tuple" bf n):=
 eS (fW.mp h) λx _ e=>e▸x.2
noncomputable def Pw:eH->AV
 | .bool b=>.bool b
 | .int i _=>.int i
 |_=>.none
noncomputable def Fy (K:zr) (fd:GW):List AV:=match fd.defaults with
 | .ref t=>(match xu K t with
  |some items=>items.toList.map Pw
  |none=>[])
 |_=>[]
noncomputable def MF (K:zr) (fd:GW):Bool:=match fd.defaults with
 | .none=>true
 | .ref t=>(match xu K t with
  |some items=>xt items.toList (items.toList.map Pw)
  |none=>false)
 |_=>false
noncomputable def codeOf (K:zr) (a:gY):mO:=match Pt K a with
 |some fd=>(match fd.body with
  | .stmts b=>((VK (Fy K fd) fd.scope b fd.params).map (·.1)).getD noFn
  |_=>noFn)
 |none=>noFn
noncomputable def QC:List Bool:=[false,true,true,false,false,true,true,false,false,true,true,false,false,true,false,true,true,true,true,false,true,false,true,true,true,true,true,true,true,true,true,true,true,true,true,true,true,true,false,true,true,true,true,true,true,true,true,true,true,true,true,true,true,true,true,true,true,true,true,true,true,true,true,true,true,true,true,true,false,false,false,true,true,true,true,true,true,true,true,true,true,true]
noncomputable def DO (K:zr) (bs:List Bool) (as:List gY):List mO:=
 (eQ as.length).map λk=>bif bs.getD k false then codeOf K (as.getD k 0) else noFn
noncomputable def MG (K:zr) (fd:GW):Bool:=Hv K fd&&MF K fd&&sS (Fy K fd).length fd.params.args.length&&GY fd.globals iD&&fd.closure.isEmpty&&GY fd.builtins j0&&
 (!BN fd.scope.names||match fd.code with
  | .ref c=>GY c LC&&decide (fd.qualname=⟨⟨[116,97,98,108,101,95,111,102]⟩⟩)
  |_=>false)
noncomputable def MH (K:zr) (bs:List Bool) (as:List gY):Bool:=
 (eQ as.length).all λk=>!bs.getD k false||(Pt K (as.getD k 0)).elim false (MG K)
noncomputable def T6 (K:zr):Array DictEntry:=match K.lookup iD with
 |some ⟨_,_,.dict es _,_⟩=>es
 |_=>#[]
noncomputable def T7:(v w:eH)->Option (PLift (v=w))
 | .builtin a,.builtin b=>if e:a=b then some ⟨congrArg C6 e⟩ else none
 | .type a,.type b=>if e:a=b then some ⟨congrArg wL e⟩ else none
 |_,_=>none
noncomputable def MI (v w:eH):Bool:=(T7 v w).isSome
theorem MJ (h:MI J aT=true):J=aT:=ps h
noncomputable def Hw (a:gY) (v:eH):Bool:=(TZ a v).isSome
theorem CG (h:Hw z J=true):J= .ref z:=ps h
noncomputable def T8 (K:zr) (val:eH):AV->Bool
 | .fn k=>Hw (yq k) val
 | .cls c=>Hw (Pp c) val
 | .tup xs=>(match val with
  | .ref t=>(match xu K t with
   |some items=>sS items.size fF&&xt items.toList xs
   |none=>false)
  |_=>false)
 |v=>ME val v
noncomputable def IQ (K:zr) (es:Array pS) (p:j7×AV):Bool:=match YD es p.1 with
 |some val=>T8 K val p.2
 |none=>!decide (p.1=("__name__":j7))&&(match p.2,K4 p.1 with
  | .bi n,some w=>MI w (Ap n)
  |_,_=>false)
noncomputable def IS (K:zr) (as:List gY) (Cs:List Qp):Bool:=
 (eQ as.length).all λc=>(Cs[c]?).elim false (DN K (as.getD c 0))
structure Sq (K:zr):Prop where
 cls:IS K UQ Wb=true
 fns:MH K QC TY=true
 codes:DO K QC TY=Wa
 IA:(TY.all λa=>U3 K (.ref a))=true
 IB:(UQ.all λa=>U3 K (.ref a))=true
 IC:(GG.all λp=>IQ K (T6 K) p)=true
 glob:(K.lookup iD).isSome=true
 hd:codeHdIn K LC Ey=true
 T9:(K.lookup Ey).isNone=true
 Yn:(match YD (T6 K) ⟨⟨[108,97,119]⟩⟩ with |some (.ref a)=>GY a 688 |_=>false)=true
noncomputable def IT:Str:=⟨⟨[116,97,98,108,101,95,111,102,46,60,108,111,99,97,108,115,62,46]⟩⟩
noncomputable def baseOf (prog:GC) (w:Yv) (h:vW) (K:zr) (mg mb:j7->Option eH) (os:Wr):Base:=
 {prog:=prog,w:=w,h₀:=K6 h [Ey],K:=K,fa:=yq,ca:=Pp,mg:=mg,mb:=mb,os:=os,tab:=Ey,lc:=LC,EW:=IT,Hc:=IT++("<lambda>":j7)}
theorem Px:PG.fns.length=82:=by kernel_rfl
theorem MK:PG.Dn.length=10:=by kernel_rfl
theorem QD {o:Option h} (a:o.elim false e9=true):∃x,o=some x/\e9 x=true:=by
 cases o with
 |none=>contradiction
 |some x=>exact ⟨x,rfl,a⟩
theorem Py {a:List gY} {b:List Qp} (h:IS aX a b=true) (c:Nat) (d:c<a.length):∃C,b[c]? =some C/\DN aX (a.getD c 0) C=true:=
 QD (k_.mp h c (eU.mpr d))
theorem RA {i:List Bool} {d:List gY} {l:List mO} (h:MH aX i d=true) (p:DO aX i d=l) (k:Nat) (F:mO) (c:l[k]? =some F):
 F=noFn\/∃f,Pt aX (d.getD k 0)=some f/\MG aX f=true/\F=codeOf aX (d.getD k 0):=by
 rw [<-p] at c
 unfold DO at c
 rw [ee] at c
 refine eS (fW.mp c) λj g e=>?_
 have m:k<d.length:=fC (ew.mp g).1 ff
 obtain rfl:=d5 ((ju m).symm.trans g)
 have o:=k_.mp h k (eU.mpr m)
 clear h c g
 cases n:i.getD k false with
 |false=>rw [n] at e;exact .inl e.symm
 |true=>
  rw [n] at e o
  exact .inr (eS (QD o) λf a b=>⟨f,a,b,e.symm⟩)
theorem MN:∀{l:List (j7×h)},h_ l ao=some dp->(ao,dp)∈l:=by
 intro d
 induction d with
 |nil=>
  intro a
  contradiction
 |cons c r b=>
  intro a
  obtain ⟨y,w⟩:=c
  rw [te] at a
  by_cases e:ao=y
  .rw [if_pos e] at a;clear b;subst e;obtain rfl:=d5 a;exact .head _
  .rw [if_neg e] at a;exact .tail _ (b a)
theorem Pz:(⟨⟨[116,97,98,108,101,95,111,102]⟩⟩:j7)++(".<locals>.":j7)=IT:=by unfold IT;decide+kernel
theorem Fz (e:H.get? z=some cf) (a:z≠Ey):(K6 H [Ey]).get? z=some cf:=hideAll_get _ e λq=>a (dt.mp q)
theorem UR (x:H.Ns z bu) (b:z≠Ey):(K6 H [Ey]).Ns z bu:=ya x λo c a e r=>⟨o,c,a,(Fz e b),r⟩
theorem PA (X:aX.In H) (b:Sq aX):aX.In (K6 H [Ey]):=λa o e=>Fz (X a o e) λq=>by
 have:=b.T9
 rw [q] at e;rw [e] at this;contradiction
variable {cJ:WRecords} {cK:(j7->Option eH)->vW->Prop} {bR:j7->Option eH}
theorem QE (G:U4 bo bB cJ cK bp m bu bR H) (X:aX.In H) (g:Sq aX) (x:j7):YD (T6 aX) x=bu x:=by
 refine mX G.T.g λo h k e a _ f=>?_
 refine j_ (Option.isSome_iff_exists.mp g.glob) λl b=>?_
 have:=X _ _ b
 rw [e] at this;(injection this with this;subst this)
 have i:T6 aX=h:=by
  unfold T6
  rw [b]
  clear G X g e f b;obtain ⟨c,d,j,n⟩:=o
  have a:j= .dict h k:=a
  subst a
  rfl
 rw [i];exact f x
variable {cL:Wr}
set_option tactic.hygienic true in
theorem PB {q:GC} (G:U4 q bB cJ cK bp m bu bR H) (A:YA q=true) (X:aX.In H) (f:Sq aX):gV (baseOf bo bp H aX bu bR cL) where
 Wd:=PA X f
 g:=UR G.T.g (by decide)
 b:=UR G.T.b (by decide)
 nolimit:=let ⟨j,a,b⟩:=G.T.nolimit;(ej j (UR a (by decide)) b)
 nodigits:=let ⟨j,a,b⟩:=G.T.nodigits;(ej j (UR a (by decide)) b)
 Tu:=let ⟨_,⟨o,_,_,e,_⟩,_⟩:=(G.T.seer A).mods;(oK o (Fz e (by decide)))
 cls c d:=by
  obtain ⟨C,I,p⟩:=Py f.cls c d
  exact ej C I (J' (c:=baseOf bo bp H aX bu bR cL) rfl p)
 IA k h:=by
  refine k_.mp f.IA (yq k) ?_
  unfold yq
  rw [ec,dj (show k<TY.length from h)]
  exact fO _
 IB k h:=by
  refine k_.mp f.IB (Pp k) ?_
  unfold Pp
  rw [ec,dj (show k<UQ.length from h)]
  exact fO _
 Tw:=Px
 LI:=MK
 IC x v E:=by
  have d:=k_.mp f.IC _ (MN E)
  unfold IQ at d
  dsimp only at d
  rw [QE G X f] at d
  have w:=PA X f
  generalize u:bu x=o at d
  induction o using d_ with
  |some r=>
   refine ej r (.inl u) ?_
   induction v using AV.casesOn with
   |fn k=>rw [CG d];exact .fn (B:=baseOf bo bp H aX bu bR cL) _
   |cls k=>rw [CG d];exact .cls (B:=baseOf bo bp H aX bu bR cL) _
   |tup D=>
    induction r using p9 with
    |ref t=>
     have d:(match xu aX t with
      |some l=>sS l.size fF&&xt l.toList D
      |none=>false)=true:=d
     generalize z:xu aX t=o at d
     induction o using d_ with
     |none=>contradiction
     |some l=>
      refine j_ (Fx z) λn h=>?_
      have d:=(eV _ _).mp d
      exact .tup (w _ _ h) (ja d.1) (AK d.2)
    |_=>contradiction
   |_=>exact Ka d
  |none=>
   have d:=(eV _ _).mp d
   have p:¬x=("__name__":j7):=of_decide_eq_false ((fL _).mp d.1)
   have i:=d.2
   clear d
   induction v using AV.casesOn with
   |bi n=>
    have i:(match (AV.bi n),K4 x with
     | .bi n,some bp=>MI bp (Ap n)
     |_,_=>false)=true:=i
    generalize F:K4 x=o at i
    induction o using d_ with
    |none=>contradiction
    |some s=>
     have y:bR x=some s:=(G.T.builtins x p).trans F
     refine ej s (.inr ⟨u,y⟩) ?_
     rw [MJ i]
     exact .bi (B:=baseOf bo bp H aX bu bR cL) n
   |_=>contradiction
set_option tactic.hygienic true in
theorem PC (X:aX.In H) (h:Sq aX):AG Qz (baseOf bo bp H aX bu bR cL):=λk F p=>by
 rcases RA h.fns h.codes k F p with A |⟨a,s,j,d⟩
 .exact .inl A
 .have i:=PA X h
  clear X h p;refine eS (Pu s) λo x I=>?_
  unfold codeOf at d
  rw [s] at d
  dsimp only at d
  unfold MG at j
  simp only [eV,qa] at j
  refine iK j λw e=>?_;obtain ⟨⟨⟨⟨⟨E,g⟩,K⟩,G⟩,y⟩,D⟩:=w
  generalize L:a.body=C at d
  induction C using FuncBody.casesOn with
  |stmts b=>
   have d:F=((VK (Fy aX a) a.scope b a.params).map (·.1)).getD noFn:=d
   induction r:VK (Fy aX a) a.scope b a.params using d_ with
   |none=>rw [r] at d;exact .inl d
   |some u=>
    rw [r] at d
    have d:F=u.1:=d
    subst d
    refine Cb u.2 λm M B v=>?_
    refine .inr ⟨⟨a.params,b,a.scope⟩,M,B,v,⟨o,a,(i _ _ x),I,rfl,L,rfl,(nI G),y,(nI D),(J_ i E),?_,(λl=>?_)⟩,by rw [m];exact ja K⟩
    .rw [m]
     unfold MF at g
     unfold Fy
     generalize a.defaults=z at g⊢
     induction z using p9 with
     |none=>exact .inl ⟨rfl,rfl⟩
     |ref t=>
      have g:(match xu aX t with
       |some f=>xt f.toList (f.toList.map Pw)
       |none=>false)=true:=g
      generalize q:xu aX t=o at g
      induction o using d_ with
      |none=>contradiction
      |some f=>
       refine j_ (Fx q) λn J=>?_
       refine .inr ⟨t,f,n,rfl,(i _ _ J),?_⟩
       show hX _ _ f.toList (match xu aX t with
        |some f=>f.toList.map Pw
        |none=>[])
       rw [q]
       exact AK g
     |_=>contradiction
    .have l:BN a.scope.names=true:=l
     rw [l] at e
     simp only [wO,Q2] at e
     have:=e
     generalize a.code=z at e⊢
     induction z using p9 with
     |ref c=>
      have e:=(eV _ _).mp e
      rw [nI e.1,of_decide_eq_true e.2]
      exact ⟨rfl,Pz⟩
     |_=>contradiction
  |_=>exact .inl d
theorem MO {q:GC} (G:U4 q bB cJ cK bp m bu bR H) (r:H.get? Ey=some (K5 #[])) (X:aX.In H) (f:Sq aX):xr (baseOf bo bp H aX bu bR cL) where
 hd:=Yw (PA X f) f.hd
 bt:=by
  refine iP G.T.bmain λb i l h a j k c=>?_
  have g:b≠Ey:=λe=>by
   rw [e,r] at a;(injection a with a;subst a);contradiction
  have p:b≠mainGlobals:=λe=>by
   refine wW G.T.g λo t s n d _=>?_
   rw [e,n] at a;(injection a with a;subst a);rw [d] at c;contradiction
  exact ⟨b,i,l,h,p,g,(Fz a g),j,k,c⟩
 gt:=by show iD≠Ey;decide
 Hc:=rfl
theorem PD (k:H.get? Ey=some (K5 #[])) (j:m.heap=H) (f:m.gens=#[]) (h:m.os=cL):R (baseOf bo bp H aX bu bR cL) (λ_=>none) m:=by
 subst j
 have i:∀b,ic (baseOf bo bp m.heap aX bu bR cL) (λ_=>none) b->b=Ey:=λb d=>by
  rcases d with d |⟨a,c,g,e⟩ |d
  .exact absurd rfl d
  .contradiction
  .exact d
 refine ⟨λa o e=>(by contradiction),λb o e=>of_hideAll _ e,λb d=>?_,λa c n g e=>(by contradiction),rfl,(gr (#[]) k trivial (λp l e=>(by contradiction))),f,h⟩
 rw [i b d]
 exact hideAll_none _ (.head _)
noncomputable def Core:Prop:=∀ns:List Int,ns.length<=63->eE PG 50 (.fn 81) [.BM ns] (λ_=>none) λv _=>v= .bool true
theorem Kb {a:List WData}:fU.row.toRowW.claim.post a (WData.bool true) a=true:=by
 show fU.row.toRowW.claim.post a (.bool true) a=true
 first
  |kernel_rfl
  |exact postW_of (by wrow_shape) (by wtm_val) (by w_fin)
theorem T' {B:j7->Option gY} {s:ExcName->Option eH} {t:List WData} (R:Core) (G:U4 bo bB cJ cK bp m bu bR ae.heap) (L:YA bo=true) (X:aX.In ae.heap) (i:ae.heap.get? Ey=some (K5 #[])) (g:Sq aX) (D:ae.gens=#[]) (A:bu ⟨⟨[108,97,119]⟩⟩=some (.ref z)) (p:ae.heap.IsList aV aj.toArray) (u:GD aj a8) (q:¬((63:Int)<(a8.length:Int))):
 gc (hU fU.row.prog bp) callerA (nC (.ref z) [.ref aV] []) (λv j=>GoodWG fU.row.toRowW.claim B s t ae (.ok (.ret v)) j)
  (λe j=>GoodWG fU.row.toRowW.claim B s t ae (.error e) j) ae:=by
 have P:z=yq 81:=by
  have C:=g.Yn
  rw [QE G X g,A] at C
  exact nI C
 clear A;subst P
 have S:=PB (bo:=fU.row.prog) (bp:=bp) (cL:=ae.os) G L X g
 have U:=PC (bo:=fU.row.prog) (bp:=bp) (bu:=bu) (bR:=bR) (cL:=ae.os) X g
 have H:=MO (bo:=fU.row.prog) (bp:=bp) (cL:=ae.os) G i X g
 have r:=PD (bo:=fU.row.prog) (bp:=bp) (bu:=bu) (bR:=bR) (aX:=aX) i rfl D (rfl:ae.os=ae.os)
 have T:=u.length
 have J:aV≠Ey:=λe=>by
  refine gj p λo d W _=>?_
  rw [e,i] at d;(injection d with d;subst d);contradiction
 have F:(K6 ae.heap [Ey]).IsList aV aj.toArray:=eS p λo d x=>(ej o (Fz d J) x)
 have Q:RV (baseOf fU.row.prog bp ae.heap aX bu bR ae.os) ae.heap (.ref aV) (.BM a8):=.BM F (by simpa using u) (by rw [j4];unfold fF;exact n1 T (a_ (mN λh=>q (h9.mpr h)) (by decide:63<=100000)))
 refine er (Ry S U H 50 (.fn 81) [.BM a8] _ _ callerA (.ref (yq 81)) [.ref aV] ae (R a8 (by exact mN λh=>q (h9.mpr h))) ⟨by decide,by decide,rfl⟩ r (.fn 81) (.cons Q .nil)) ?_ λ_ _ e=>e.elim
 intro v j N;obtain ⟨x,V,M,l,y,rfl⟩:=N
 obtain rfl:=xb M
 refine ur (.inl ⟨.bool true,.bool true,[],rfl,λ_=>rfl,.bool true,Kb,λ_=>⟨eI,(by intros;contradiction)⟩⟩) ⟨λb o e=>?_,λb o e=>?_⟩ l.os (.of_eq l.gens)
 all_goals
  by_cases k:b=Ey
 .subst k
  refine eS l.tab λps n _=>?_
  rw [i] at e;(injection e with e;subst e)
  have E:=Yw X g.hd
  exact .inr (.inl (rH (E.tab i).isCodeTable rfl (#[]) ps rfl (by rw [Array.empty_append];exact n)))
 .refine .inl (y.keep b o e λf=>?_)
  rcases f with f |⟨a,c,O,I⟩ |f
  .exact f rfl
  .contradiction
  .exact k f
 .subst k
  refine eS l.tab λps n _=>?_
  exact oK _ n
 .refine oK o (y.keep b o e λf=>?_)
  rcases f with f |⟨a,c,O,I⟩ |f
  .exact f rfl
  .contradiction
  .exact k f
variable {de:mO}
theorem gP (m:MM) (i:2<=a) (e:PG.fns[d]? =some de) (k:bindArgs de j=some m) (h:jo PG (eE PG a) de.body m b λf _ g=>∃c,eD c g/\n (y7 f) c):eE PG (a+1) (.fn d) j b n:=
 (nX i de m e k h)
theorem call_cls (g:PG.Dn[d]? =some bO) (h:∀c e,b.free c->b.free e->c≠e->eE PG a (.fn bO.init) (.ref c::j) (b.set c (.inst d e [])) λv f=>v= .none/\n (.ref c) f):
 eE PG (a+1) (.cls d) j b n:=ej bO g h
theorem jI (h:Il d j b n):eE PG (a+1) (.bi d) j b n:=h
theorem Kc (I:List a9->h->t->Prop) (j:a9->(h->t->Prop)->h->t->Prop) (l:h->t->Prop):
 ∀(g done:List a9) (m:h) (a:t),I done m a->
  (∀d x r m a,done++g=d++x::r->I d m a->∀k:h->t->Prop,(∀c b,I (d++[x]) c b->k c b)->j x k m a)->
  (∀m a,I (done++g) m a->l m a)->g.foldr j l m a:=by
 intro q
 induction q with
 |nil=>
  intro done m a i _ f
  simpa using f m a (by simpa using i)
 |cons x r u=>
  intro done m a i n f
  refine n done x r m a rfl i _ λc b o=>?_
  refine u (done++[x]) c b o (λd y s m a e=>n d y s m a (by simpa using e)) λm a p=>f m a (by simpa using p)
theorem vi (I:List a9->h->t->Prop) {b:a9->(h->t->Prop)->h->t->Prop} {a:List a9} (j:I [] dp dW) (l:∀d x r dp dW,a=d++x::r->I d dp dW->∀k:h->t->Prop,(∀f c,I (d++[x]) f c->k f c)->b x k dp dW) (i:∀dp dW,I a dp dW->dn dp dW):a.foldr b dn dp dW:=
 Kc I b dn a [] dp dW j (λd x r dp dW e=>l d x r dp dW (by simpa using e)) (λdp dW g=>i dp dW (by simpa using g))
theorem CH {e:(h->t->Prop)->h->t->Prop} (I:Nat->h->t->Prop) (f:I a dp dW) (p:∀a dp dW,I a dp dW->∀k:h->t->Prop,(∀c d b,c<a->I c d b->k d b)->e k dp dW):
 ∃n:Nat,N3 (motive:=λ_=>h->t->Prop) (λ_ _=>False) (λ_ k=>e k) n dp dW:=by
 have o:∀n a dp dW,a<n->I a dp dW->N3 (motive:=λ_=>h->t->Prop) (λ_ _=>False) (λ_ k=>e k) n dp dW:=by
  intro n
  induction n with
  |zero=>intro a dp dW f;exact absurd f (o_ _)
  |succ n j=>intro a dp dW l i;exact p a dp dW i _ λc d b m g=>j c d b (by exact ei m (eX l)) g
 exact ⟨a+1,o _ a dp dW (fH _) f⟩
noncomputable def tI (w:List Int):AV:=.tup (w.map .int)
theorem yr (n:Nat) (w:List Int):jk (n+1) (tI w):=.tup _ _ λx a=>by
 refine iQ x (ck.mp a) λi _=>?_;exact .int _ i
theorem xv (w:List Int):Plain (tI w):=yr 5 w
theorem wk (w:List Int):∀x∈w.map AV.int,Plain x:=λx a=>by
 refine iQ x (ck.mp a) λi _=>?_;exact .int _ i
variable {cp:List Int}
theorem IU (h:a8.map AV.int=cp.map AV.int):a8=cp:=by
 induction a8 generalizing cp with
 |nil=>exact (jt.mp h.symm).symm
 |cons x a8 a=>
  induction cp using el with
  |nil=>contradiction
  |cons y cp=>
   refine iK (fq h) λb c=>?_
   rw [AV.int.inj b,a c]
theorem Hx (h:tI a8=tI cp):a8=cp:=IU (AV.tup.inj h)
theorem MP:Eqv b (tI a8) (tI cp) (decide (a8=cp)):=.plain (xv a8) (xv cp) _ (decide_eq_true_iff.trans ⟨λh=>congrArg tI h,Hx⟩)
noncomputable def RB:List (Nat×CE)->w0
 |[]=>.nil
 |(x,e)::r=>.cons (.iA (.var 0) x e) (RB r)
noncomputable def RC (m:MM):CE->Option AV
 | .var i=>(m[i]?).join
 | .cst v=>some v
 |_=>none
noncomputable def PF:List (Nat×CE)->List AV->List (Nat×AV)->List (Nat×AV)
 |(x,_)::r,v::vs,fs=>PF r vs (iy fs x v)
 |_,_,fs=>fs
theorem PH (h:RC e g=some l) (a:n l b):VE PG i g e b n:=by
 induction g using CE.casesOn with
 |var c=>
  have h:(e[c]?).join=some l:=h
  refine ej l ?_ a
  induction g:e[c]? using d_ with
  |none=>rw [g] at h;contradiction
  |some w=>rw [g] at h;exact congrArg some h
 |cst w=>(injection h with h;subst h);exact a
 |_=>contradiction
theorem T_ (f:e[0]? =some (some (.ref a))) {l:List (Nat×CE)} (c:b a=some (.inst d o aS)) (n:l.map (λp=>RC e p.2)=j.map some) (h:ag .next e (b.set a (.inst d o (PF l j aS)))):jo PG i (RB l) e b ag:=by
 induction l generalizing j aS b with
 |nil=>
  induction j using el with
  |nil=>rwa [show b.set a (.inst d o (PF [] [] aS))=b from AS.set_same c] at h
  |cons v j=>contradiction
 |cons p l k=>
  induction j using el with
  |nil=>contradiction
  |cons v j=>
   refine iK (fq n) λm g=>?_
   exact PH m (ej _ f (.mk c (k (gX _ _ _) g (by rw [Oe];exact h))))
theorem yt {l:List (Nat×CE)} (g:4<=a) (t:PG.Dn[d]? =some bO) (i:PG.fns[bO.init]? =some de) (s:∀c,bindArgs de (.ref c::j)=some (some (.ref c)::e)) (q:de.body=RB l) (u:∀c:Nat,l.map (λp=>RC (some (.ref c)::e) p.2)=aN.map some) (h:∀c f,b.free c->b.free f->c≠f->n (.ref c) (b.set c (.inst d f (PF l aN [])))):eE PG a (.cls d) j b n:=by
 obtain ⟨a,rfl⟩:∃k,a=k+2:=oK (a -2) (by exact UL g)
 refine call_cls t λc f o m r=>gP _ (by exact WK g) i (s c) ?_
 rw [q]
 refine T_ rfl (gX _ _ _) (u c) (gr _ (ed _) rfl ?_)
 rw [Oe]
 exact h c f o m r
theorem tp (e:4<=a) (h:∀c d,b.free c->b.free d->c≠d->n (.ref c) (b.set c (.inst 0 d [(33,l)]))):eE PG a (.cls 0) [l] b n:=
 yt (aN:=[l]) (l:=[(33,.var 1)]) (e:=[some l]) e rfl rfl (λ_=>rfl) rfl (λ_=>rfl) h
theorem tq (e:4<=a) (h:∀c d,b.free c->b.free d->c≠d->n (.ref c) (b.set c (.inst 5 d [(54,l)]))):eE PG a (.cls 5) [l] b n:=
 yt (aN:=[l]) (l:=[(54,.var 1)]) (e:=[some l]) e rfl rfl (λ_=>rfl) rfl (λ_=>rfl) h
theorem AL (e:4<=a) (h:∀c d,b.free c->b.free d->c≠d->n (.ref c) (b.set c (.inst 8 d [(33,l),(58,af),(55,b7)]))):eE PG a (.cls 8) [l,af,b7] b n:=
 yt (aN:=[l,af,b7]) (l:=[(33,.var 1),(58,.var 2),(55,.var 3)]) (e:=[some l,some af,some b7]) e rfl rfl (λ_=>rfl) rfl (λ_=>rfl) h
theorem Hy (e:4<=a) {x:AV} (h:∀c d,b.free c->b.free d->c≠d->n (.ref c) (b.set c (.inst 3 d [(37,l),(47,af),(48,b7),(49,x)]))):eE PG a (.cls 3) [l,af,b7,x] b n:=
 yt (aN:=[l,af,b7,x]) (l:=[(37,.var 1),(47,.var 2),(48,.var 3),(49,.var 4)]) (e:=[some l,some af,some b7,some x]) e rfl rfl (λ_=>rfl) rfl (λ_=>rfl) h
noncomputable def MQ (g c m:AV):List (Nat×AV):=[(34,.int 0),(29,g),(35,c),(36,m),(31,.bool false),(24,.int 0),(25,.int 0),(26,.int 0),(30,.int 0),(37,.str []),(38,.int 0),(39,.int 0),(40,.int 0),(41,.int 0),(42,.int 0),(43,.str [])]
theorem MR (e:4<=a) (h:∀c d,b.free c->b.free d->c≠d->n (.ref c) (b.set c (.inst 1 d (MQ l af (.int 0))))):eE PG a (.cls 1) [.int 0,l,af] b n:=
 yt (aN:=[.int 0,l,af,.int 0,.bool false,.int 0,.int 0,.int 0,.int 0,.str [],.int 0,.int 0,.int 0,.int 0,.int 0,.str []])
  (l:=[(34,.var 1),(29,.var 2),(35,.var 3),(36,.cst (.int 0)),(31,.cst (.bool false)),(24,.cst (.int 0)),(25,.cst (.int 0)),(26,.cst (.int 0)),(30,.cst (.int 0)),(37,.cst (.str [])),(38,.cst (.int 0)),(39,.cst (.int 0)),(40,.cst (.int 0)),(41,.cst (.int 0)),(42,.cst (.int 0)),(43,.cst (.str []))])
  (e:=[some (.int 0),some l,some af]) e rfl rfl (λ_=>rfl) rfl (λ_=>rfl) h
theorem Hz (e:4<=a) (h:∀c d,b.free c->b.free d->c≠d->n (.ref c) (b.set c (.inst 2 d [(28,l),(44,.bool false),(45,.int 0),(46,.int 0)]))):eE PG a (.cls 2) [l] b n:=
 yt (aN:=[l,.bool false,.int 0,.int 0]) (l:=[(28,.var 1),(44,.var 2),(45,.cst (.int 0)),(46,.cst (.int 0))]) (e:=[some l,some (.bool false)]) e rfl rfl (λ_=>rfl) rfl (λ_=>rfl) h
noncomputable def Ev (X:Ak) (m:MM) (st:AS) (e:CE) (v:AV):Prop:=∀Q:AV->AS->Prop,Q v st->VE PG X e m st Q
noncomputable def IV (X:Ak) (m:MM) (st:AS) (es:wZ) (vs:List AV):Prop:=∀Q:List AV->AS->Prop,Q vs st->Io PG X es m st Q
noncomputable def Tv (X:Ak) (m:MM) (st:AS) (e:CE) (b:Bool):Prop:=∀Q:Bool->AS->Prop,Q b st->VT PG X e (VE PG X e) m st Q
theorem a5 (h:e[a]? =some (some l)):Ev i e b (.var a) l:=λQ c=>ej l h c
theorem d3:Ev i e b (.cst l) l:=λQ a=>a
theorem gQ:IV i e b .nil []:=λQ a=>a
theorem oF (h:Ev i e b g l) (c:IV i e b ar j):IV i e b (.cons g ar) (l::j):=λQ a=>h _ (c _ a)
theorem iJ (h:Ev i e b g l):IV i e b (.cons g .nil) [l]:=oF h gQ
theorem iL (h:Ev i e b g l) (a:Ev i e b D af):IV i e b (.cons g (.cons D .nil)) [l,af]:=oF h (iJ a)
theorem vD (h:Ev i e b g l) (c:Ev i e b D af) (a:Ev i e b aL b7):IV i e b (.cons g (.cons D (.cons aL .nil))) [l,af,b7]:=oF h (iL c a)
theorem g6 (h:IV i e b ar j):Ev i e b (.tup ar) (.tup j):=λQ a=>h _ a
theorem eO (h:Ev i e b g (.ref d)) (j:b d=some (.inst o I aS)) (f:aS.lookup a=some l):Ev i e b (.attr g a) l:=λQ c=>h _ (.mk j f c)
theorem DP (h:Ev i e b g l) (c:Ev i e b D af) (d:∀Q:AV->AS->Prop,Q b7 b->zC b Q l af):Ev i e b (.sub g D) b7:=λQ a=>h _ (c _ (d _ a))
theorem AM (b:j[a]? =some l):itemAt j (a:Int)=some l:=(if_pos (gE a)).trans b
theorem CI (e:b a=some (.list j)) (f:j[d]? =some l) (c:n l b):zC b n (.ref a) (.int d):=.list e (AM f) c
theorem FA (d:j[a]? =some l) (c:n l b):zC b n (.tup j) (.int a):=.tup (AM d) c
theorem Kd (f:b a=some (.dict aC)) (e:ta l aC) (d:(l,af)∈aC) (c:n af b):zC b n (.ref a) l:=.dict f e d c
theorem ft (h:Ev i e b g (.ref a)) (m:b a=some (.list j)) (k:Ev i e b D (.int d)) (f:j[d]? =some l):Ev i e b (.sub g D) l:=DP h k λ_ c=>CI m f c
theorem pq (h:Ev i e b g (.tup j)) (f:Ev i e b D (.int a)) (d:j[a]? =some l):Ev i e b (.sub g D) l:=DP h f λ_ c=>FA d c
theorem sa (h:Ev i e b g (.ref a)) (k:b a=some (.dict aC)) (j:Ev i e b D l) (f:ta l aC) (d:(l,af)∈aC):Ev i e b (.sub g D) af:=DP h j λ_ c=>Kd k f d c
theorem ia (h:Ev i e b g (.int p)) (c:Ev i e b D (.int aB)) (d:binI bM p aB=some bZ):Ev i e b (.bin bM g D) (.int bZ):=λQ a=>h _ (c _ (.int d a))
theorem AN (h:Ev i e b g (.tup j)) (c:Ev i e b D (.tup aN)) (d:j.length+aN.length<=fF):Ev i e b (.bin .add g D) (.tup (j++aN)):=λQ a=>h _ (c _ (.cat d a))
theorem wm (h:Ev i e b g (.int p)):Ev i e b (.neg g) (.int (-p)):=λQ a=>h _ (.mk a)
variable {bI:Og}
theorem fV (h:Ev i e b g l) (c:Ev i e b D af) (d:∀Q:Bool->Prop,Q aw->pW b Q bI l af):Ev i e b (.cmp g bI D) (.bool aw):=λQ a=>h _ (c _ (d (λaw=>Q (.bool aw) b) a))
theorem eq_int (c:aw=decide (p=aB)) (Q:Bool->Prop) (a:Q aw):pW b Q .eq (.int p) (.int aB):=.eq (.plain (.int _ p) (.int _ aB) aw (by rw [c,decide_eq_true_iff];exact ⟨λh=>by rw [h],λh=>AV.int.inj h⟩)) a
theorem ne_int (c:aw= !decide (p=aB)) (Q:Bool->Prop) (a:Q aw):pW b Q .ne (.int p) (.int aB):=.ne (.plain (.int _ p) (.int _ aB) (decide (p=aB)) (by rw [decide_eq_true_iff];exact ⟨λh=>by rw [h],λh=>AV.int.inj h⟩)) (c▸a)
theorem n_ (c:aw=decide (p<aB)) (Q:Bool->Prop) (a:Q aw):pW b Q .lt (.int p) (.int aB):=.ord (congrArg some c.symm) a
theorem f' (h:Ev i e b (.cmp g bI D) (.bool aw)):Tv i e b (.cmp g bI D) aw:=λQ a=>h _ (ej _ (.bool _) a)
theorem yu (h:Tv i e b g aw) (c:aw=true->Tv i e b D bN):Tv i e b (.and g D) (aw&&bN):=λQ a=>h _ (by
 clear h;induction aw with
 |true=>exact c rfl _ a
 |false=>exact a)
theorem MS (h:Tv i e b g aw) (c:aw=false->Tv i e b D bN):Tv i e b (.or g D) (aw||bN):=λQ a=>h _ (by
 clear h;induction aw with
 |false=>exact c rfl _ a
 |true=>exact a)
theorem RF (h:e[a]? =some (some (.ref d))) (f:b d=some (.list j)):Tv i e b (.var a) (!j.isEmpty):=λQ c=>Dg _ h _ (.list f) c
theorem xw (c:Ev i e b g l) (d:IV i e b ar j) (h:∀Q:AV->AS->Prop,Q af b->i l j b Q):Ev i e b (.call g ar) af:=λQ a=>c _ (d _ (h _ a))
theorem g7 (a:Ev i e b g l) (c:IV i e b ar j) (h:i l j b n):VE PG i (.call g ar) e b n:=a _ (c _ h)
theorem jr (f:Ev i e b g (.ref d)) (l:b d=some (.inst o I aS)) (m:aS.lookup a=none) (p:PG.Dn[o]? =some bO) (c:bO.meths.lookup a=some ak) (k:IV i e b ar j) (h:i (.fn ak) (.ref d::j) b n):VE PG i (.fM g a ar) e b n:=f _ (.inst l m p c (k _ h))
theorem IW (f:Ev i e b g (.ref d)) (c:b d=some (.list j)) (l:a=0\/a=3) (k:IV i e b ar aN) (h:y4 d j b n a aN):VE PG i (.fM g a ar) e b n:=f _ (.list c l (k _ (ej _ c h)))
theorem DQ (f:Ev i e b g (.ref d)) (k:b d=some (.dict aC)) (j:a=1\/a=2) (h:Io PG i ar e b λc b=>∃aC,b d=some (.dict aC)/\y6 d aC b n a c):VE PG i (.fM g a ar) e b n:=f _ (.dict k j h)
theorem jd (h:Ev (eE PG (a+1)) e b g l) (d:∀Q:List AV->Prop,Q j->ph b Q l):Ev (eE PG (a+1)) e b (.call (.cst (.bi 0)) (.cons g .nil)) (.int j.length):=λQ c=>h _ (.mk (d _ λ_=>c))
theorem f9 (d:b a=some (.list j)) (Q:List AV->Prop) (c:Q j):ph b Q (.ref a):=.list d c
theorem q7 (e:b a=some (.dict aC)) (d:IntKeys aC) (Q:List AV->Prop) (c:Q (aC.map (·.1))):ph b Q (.ref a):=.dict e d c
theorem gI (d:b a=some (.list j)) (c:bH (.list a j) j):oi b bH (.ref a):=.list d c
theorem vj (e:b a=some (.dict aC)) (d:IntKeys aC) (c:bH (.dict a (aC.map (·.1))) (aC.map (·.1))):oi b bH (.ref a):=.dict e d c
noncomputable abbrev Nx (X:Ak) (r:w0) (Q:Fl->MM->AS->Prop):Fl->MM->AS->Prop:=λfl m st=>match fl with | .next=>jo PG X r m st Q |fl=>Q fl m st
theorem g9 (c:Ev i e b g l) (h:jo PG i ah (e.set a (some l)) b ag):jo PG i (.cons (.asg a g) ah) e b ag:=c _ h
theorem iM (a:Ev i e b g l) (h:ag (.ret l) e b):jo PG i (.cons (.ret g) ah) e b ag:=a _ h
theorem QF (h:ag .brk e b):jo PG i (.cons .brk ah) e b ag:=h
theorem ki {c:w0} (a:Tv i e b g aw) (f:aw=true->jo PG i bg e b (Nx i ah ag)) (d:aw=false->jo PG i c e b (Nx i ah ag)):jo PG i (.cons (.iff g bg c) ah) e b ag:=a _ (by
 clear a;induction aw with
 |true=>exact f rfl
 |false=>exact d rfl)
noncomputable abbrev g_:=List Int
noncomputable abbrev Row:=g_×Int
structure Au where
 steps:List (List (Int×Nat))
 ends:List Int
noncomputable def dV (s:List (Int×Nat)):List (AV×AV):=s.map λp=>(.int p.1,.int p.2)
noncomputable def ie (r:Row):AV:=.tup [tI r.1,.int r.2]
inductive ke (st:AS):List Nat->List (List (Int×Nat))->Prop where
 |nil:ke st [] []
 |cons {d:Nat} {s:List (Int×Nat)} {ds:List Nat} {ss:List (List (Int×Nat))} (h:st d=some (.dict (dV s))) (r:ke st ds ss):ke st (d::ds) (s::ss)
structure CJ (st:AS) (a dx l e:Nat) (ds:List Nat) (A:Au):Prop where
 obj:st a=some (.inst 6 dx [(32,.ref l),(55,.ref e)])
 steps:st l=some (.list (ds.map .ref))
 ends:st e=some (.list (A.ends.map .int))
 AP:ke st ds A.steps
inductive mY (st:AS) (a:Nat) (A:Au):Prop where
 |mk (dx l e:Nat) (ds:List Nat) (h0:CJ st a dx l e ds A):mY st a A
structure Au.Ok (A:Au):Prop where
 len:A.ends.length=A.steps.length
 pos:0<A.steps.length
 to:∀s∈A.steps,∀p∈s,p.2<A.steps.length
 nd:∀s∈A.steps,(s.map (·.1)).Nodup
noncomputable def Au.at (A:Au) (n:Nat):List (Int×Nat):=A.steps.getD n []
noncomputable def Au.step (A:Au) (n:Nat) (g:Int):Option Nat:=(A.at n).lookup g
open Mine.Au renaming step->U_
noncomputable def Au.end (A:Au) (n:Nat):Int:=A.ends.getD n (-1)
noncomputable def FC:Option Nat->Int
 |some t=>t
 |none=>-1
variable {aP:List (List (Int×Nat))}
theorem ke.le (c:eD b q) (h:ke b C aP):ke q C aP:=by
 induction h with
 |nil=>exact .nil
 |cons h _ a=>exact .cons (c _ _ h) a
variable {r:Au}
theorem mY.le (h:mY b a r) (c:eD b q):mY q a r:=let ⟨f,l,e,d,h⟩:=h;⟨f,l,e,d,c _ _ h.obj,c _ _ h.steps,c _ _ h.ends,h.AP.le c⟩
theorem ke.length (h:ke b C aP):C.length=aP.length:=by
 induction h with
 |nil=>rfl
 |cons _ _ a=>exact congrArg rV a
theorem ke.get (h:ke b C aP) {i:Nat} {s} (e:aP[i]? =some s):∃d,C[i]? =some d/\b d=some (.dict (dV s)):=by
 induction h generalizing i with
 |nil=>contradiction
 |cons h _ a=>
  induction i using ji with
  |zero=>clear a;(injection e with e;subst e);exact ej _ rfl h
  |succ i=>exact a e
variable {aD:List (Int×Nat)}
theorem rL (h:aD.lookup p=some a):(AV.int p,AV.int a)∈dV aD:=by
 induction aD with
 |nil=>contradiction
 |cons c r b=>
  obtain ⟨y,v⟩:=c
  rw [eM] at h
  split at h
  .rename_i e;have:=eq_of_beq e;clear b e;subst this;obtain rfl:=d5 h;exact .head _
  .exact .tail _ (b h)
theorem DR (h:aD.lookup p=none):AV.int p∉(dV aD).map (·.1):=by
 induction aD with
 |nil=>simp [dV]
 |cons a r b=>
  obtain ⟨y,v⟩:=a
  rw [eM] at h
  split at h
  .contradiction
  .rename_i e
   have c:p≠y:=λq=>by subst q;simp at e
   simp only [dV,eG,eK,AV.int.injEq,not_or]
   exact ⟨c,b h⟩
theorem nP (s:List (Int×Nat)):IntKeys (dV s):=λp a=>by
 refine iQ p (ck.mp a) λq _=>?_;exact ⟨q.1,rfl⟩
theorem yv (b:a<r.steps.length):r.steps[a]? =some (r.at a):=by
 unfold Au.at;rw [ec,dj b];rfl
theorem CJ.dict (h:CJ b a d o I C r) (f:ak<r.steps.length):∃c,(C.map AV.ref)[ak]? =some (.ref c)/\b c=some (.dict (dV (r.at ak))):=by
 refine eS (h.AP.get (yv f)) λc e g=>?_
 exact ej c (by rw [ee,e];rfl) g
theorem CJ.len (h:CJ b a d o I C r):(C.map AV.ref).length=r.steps.length:=by rw [bb,h.AP.length]
theorem vk (c:r.Ok) (b:a<r.steps.length):(r.ends.map AV.int)[a]? =some (.int (r.end a)):=by
 have d:a<r.ends.length:=by rw [c.len];exact b
 unfold Au.end
 rw [ee,ec,dj d];rfl
theorem sE (c:4<=d) (h:mY b a r) (f:n (.int r.steps.length) b):eE PG d (.fn 45) [.ref a] b n:=by
 obtain ⟨d,rfl⟩:∃k,d=k+2:=oK (d -2) (by exact UL c)
 obtain ⟨i,l,e,g,h⟩:=h
 refine gP [some (.ref a)] (by exact Qo c) rfl rfl (iM (jd (eO (a5 rfl) h.obj rfl) (f9 h.steps)) (ej b (ed _) ?_))
 rw [h.len];exact f
theorem yw (g:3<=d) (h:mY b a r) (k:o<r.steps.length) (c:n (.int (FC (r.step o p))) b):eE PG d (.fn 46) [.ref a,.int o,.int p] b n:=by
 obtain ⟨d,rfl⟩:∃o,d=o+1:=oK (d -1) (by exact Of g)
 obtain ⟨s,l,e,q,h⟩:=h
 refine eS (h.dict k) λm j i=>?_
 refine gP [some (.ref a),some (.int o),some (.int p)] (by exact eX g) rfl rfl (DQ (ft (eO (a5 rfl) h.obj rfl) h.steps (a5 rfl) j) i (.inl rfl) (iL (a5 rfl) d3 _ ?_))
 refine ej _ i (.G' (nP _) ?_)
 induction f:r.step o p using d_ with
 |some t=>
  rw [f] at c
  exact .inl (Dg _ (rL f) b (ed _) c)
 |none=>
  rw [f] at c
  exact .inr (tO (DR f) b (ed _) c)
noncomputable def xx (lo hi:Nat):List AV:=(eQ (hi -lo)).map λk=>.int (lo+k:Nat)
theorem tr (c:bH .pU (xx a d)):oi b bH (.pU a d 1):=.pU (by
 unfold w' xx
 rw [if_pos rfl,show ((d:Int) - (a:Int)).toNat=d -a by exact EG d a]
 rfl) c
theorem PI (h:xx a d=j++l::aN):l= .int (a+j.length:Nat)/\a+j.length<d:=by
 have b:=congrArg fj h
 simp only [xx,bb,ff,bh,e_] at b
 have c:(xx a d)[j.length]? =some l:=by rw [h];simp
 unfold xx at c
 rw [ee,ju (by exact UM b)] at c
 exact ⟨(d5 c).symm,by exact Ve b⟩
theorem MT:(xx a d).length=d -a:=by simp [xx]
noncomputable def iC (A:Au):Nat->Nat->Nat×Int->List Int->Nat×Int
 |_,_,best,[]=>best
 |k,spot,best,g::r=>match A.step k g with
  |none=>best
  |some t=>iC A t (spot+1) (if A.end t= -1 then best else (spot+1,A.end t)) r
variable {dg:Nat×Int}
theorem pZ:iC r a d dg (p::a8)=(match r.step a p with
 |none=>dg
 |some t=>iC r t (d+1) (if r.end t= -1 then dg else (d+1,r.end t)) a8):=rfl
theorem oa (c:r.Ok) (h:r.step a p=some d):d<r.steps.length:=by
 have b:(p,d)∈r.at a:=by
  have:∀{s:List (Int×Nat)},s.lookup p=some d->(p,d)∈s:=by
   intro s
   induction s with
   |nil=>intro h;contradiction
   |cons g i f=>
    obtain ⟨y,v⟩:=g
    intro h
    rw [eM] at h
    split at h
    .rename_i e;have:=eq_of_beq e;clear c f e;subst this;obtain rfl:=d5 h;exact .head _
    .exact .tail _ (f h)
  exact this h
 unfold Au.at at b
 rw [ec] at b
 induction e:r.steps[a]? with
 |none=>rw [e] at b;contradiction
 |some s=>rw [e] at b;exact c.to s (fi e) (p,d) b
theorem xy (v:5<=d) (h:mY b a r) (s:r.Ok) (A:b o=some (.list (a8.map .int))) (C:a8.length<=1000000) (B:I<=a8.length) (u:n (.tup [.int (iC r 0 I (I,-1) (a8.drop I)).1,.int (iC r 0 I (I,-1) (a8.drop I)).2]) b):eE PG d (.fn 51) [.ref a,.ref o,.int I] b n:=by
 obtain ⟨d,rfl⟩:∃k,d=k+2:=oK (d -2) (by exact UL v)
 obtain ⟨W,l,e,V,p⟩:=id h
 refine gP [some (.ref a),some (.ref o),some (.int I),none,none,none] (by exact Qo v) rfl rfl (g9 d3 (g9 (g6 (iL (a5 rfl) d3)) ?_))
 refine g7 (l:=.bi 4) d3 (iL (a5 rfl) (jd (a5 rfl) (f9 A))) (ej [(I:Int),((a8.map AV.int).length:Int)] rfl ?_)
 rw [bb]
 refine .two (iz (by exact a_ B C) (by exact C) (tr ?_))
 generalize H:iC r 0 I (I,-1) (a8.drop I)=R at u
 refine vi (λ(f:List AV) (m:MM) T=>b=T/\∃(k:Nat) (g:Nat×Int) (w:Option AV),m=[some (.ref a),some (.ref o),some (.int I),some (.int k),some (.tup [.int g.1,.int g.2]),w]/\k<r.steps.length/\iC r k (I+f.length) g (a8.drop (I+f.length))=R)
  ⟨rfl,0,(I,-1),none,rfl,s.pos,H⟩ ?_ ?_
 .intro f x l m _ e S K N;refine EM S λE k g w F D c=>?_;subst E;subst F
  refine Qm x (PI e) λL=>?_
  have P:a8[I+f.length]? =some a8[I+f.length]:=dj L
  rw [fQ L] at c
  have J:(a8.map AV.int)[I+f.length]? =some (.int a8[I+f.length]):=by rw [ee,P];rfl
  refine tO trivial _ rfl (g9 (λn u=>jr (a5 rfl) p.obj rfl rfl rfl (iL (a5 rfl) (ft (a5 rfl) A (a5 rfl) J)) (yw (by exact Qo v) h D u)) ?_)
  refine ki (f' (fV (a5 rfl) d3 (eq_int rfl))) (λj=>?_) λj=>?_
  .have M:r.step k a8[I+f.length]=none:=by
    induction y:r.step k a8[I+f.length] using d_ with
    |none=>rfl
    |some t=>
     rw [y] at j
     have j:=of_decide_eq_true j
     have:((t:Nat):Int)= -1:=j
     exact (JA this.symm).elim
   rw [pZ] at c
   rw [M] at c
   have c:g=R:=c
   clear h s A C B v p H D e N P J j M;subst c
   refine QF ?_
   show jo PG _ (w0.cons (CS.ret (CE.var 4)) w0.nil) _ _ _
   exact iM (a5 rfl) (ej _ (ed _) u)
  .induction y:r.step k a8[I+f.length] using d_ with
   |none=>rw [y] at j;exact absurd j (by decide)
   |some t=>
    have G:=oa s y
    rw [pZ] at c
    rw [y] at c
    have c:iC r t (I+f.length+1) (if r.end t= -1 then g else (I+f.length+1,r.end t)) (a8.drop (I+f.length+1))=R:=c
    have O:∀(z:Nat×Int),iC r t (I+f.length+1) z (a8.drop (I+f.length+1))=R->K [some (.ref a),some (.ref o),some (.int I),some (.int t),some (.tup [.int z.1,.int z.2]),some (.int (I+f.length:Nat))] b:=λz U=>
     N _ _ ⟨rfl,t,z,_,rfl,G,(by rw [bh];exact U)⟩
    refine ki (f' (fV (ft (eO (a5 rfl) p.obj rfl) p.ends (a5 rfl) (vk s G)) d3 (ne_int rfl))) (λi=>?_) λi=>?_
    .have i:r.end t≠-1:=λq=>by rw [q] at i;exact absurd i (by decide)
     rw [if_neg i] at c
     exact g9 (g6 (iL (ia (a5 rfl) d3 rfl) (ft (eO (a5 rfl) p.obj rfl) p.ends (a5 rfl) (vk s G)))) (O (I+f.length+1,r.end t) c)
    .have i:r.end t= -1:=by
      refine gh λq=>?_
      rw [decide_eq_false q] at i;exact absurd i (by decide)
     rw [if_pos i] at c
     exact O g c
 .clear h s A C v p H;intro m _ Q;refine EM Q λE k g w F D c=>?_;subst E;subst F
  rw [MT,show I+(a8.length -I)=a8.length by exact Nat.add_sub_of_le B,ou] at c
  refine ⟨trivial,iM (a5 rfl) (ej _ (ed _) ?_)⟩
  have c:g=R:=c
  clear B D;subst c
  exact u
theorem DS (A:Au) (c:Nat):∀(r:List Int) (k a:Nat) (b:Nat×Int),iC A k (c+a) (c+b.1,b.2) r=(c+(iC A k a b r).1,(iC A k a b r).2):=by
 intro e
 induction e with
 |nil=>
  intro _ _ _
  exact rfl
 |cons g r d=>
  intro k a b
  rw [pZ,pZ]
  induction A.step k g with
  |none=>rfl
  |some t=>
   have:=d t (a+1) (if A.end t= -1 then b else (a+1,A.end t))
   dsimp only
   rw [<-this]
   by_cases h:A.end t= -1
   .rw [if_pos h,if_pos h];rfl
   .rw [if_neg h,if_neg h];rfl
noncomputable def j6 (A:Au) (s:List Int):Nat×Int:=iC A 0 0 (0,-1) s
theorem CK (A:Au) (c:Nat) (s:List Int):iC A 0 c (c,-1) s=(c+(j6 A s).1,(j6 A s).2):=DS A c s 0 0 (0,-1)
theorem Ke (A:Au):∀(r:List Int) (k a:Nat) (b:Nat×Int),b.1<=a->(b.2≠-1->0<b.1)->(iC A k a b r).1<=a+r.length/\((iC A k a b r).2≠-1->0<(iC A k a b r).1):=by
 intro f
 induction f with
 |nil=>
  intro _ _ _ h c
  exact ⟨h,c⟩
 |cons g r e=>
  intro k a b h c
  rw [pZ]
  induction A.step k g with
  |none=>exact ⟨a_ h (eh _ _),c⟩
  |some t=>
   dsimp only
   have:(if A.end t= -1 then b else (a+1,A.end t)).1<=a+1/\((if A.end t= -1 then b else (a+1,A.end t)).2≠-1->0<(if A.end t= -1 then b else (a+1,A.end t)).1):=by
    by_cases d:A.end t= -1
    .rw [if_pos d];exact ⟨fZ h,c⟩
    .rw [if_neg d];exact ⟨eJ _,λ_=>fB _⟩
   have:=e t (a+1) _ this.1 this.2
   rw [e_]
   exact ⟨by exact VY this.1 (g0 _ _ _),this.2⟩
theorem FD (A:Au) (s:List Int):(j6 A s).1<=s.length/\((j6 A s).2≠-1->0<(j6 A s).1):=by
 have:=Ke A s 0 0 (0,-1) (eJ _) (λh=>absurd rfl h)
 rwa [iW] at this
noncomputable def oR:List Au->List Int->Nat×Int->Nat×Int
 |[],_,b=>b
 |A::r,s,b=>oR r s (if b.2= -1 then j6 A s else b)
theorem uM (A:Au) (r:List Au) (s:List Int) (b:Nat×Int):oR (A::r) s b=oR r s (if b.2= -1 then j6 A s else b):=rfl
noncomputable def fY (As:List Au) (s:List Int):Nat×Int:=if (oR As s (0,-1)).2= -1 then (1,s.headD 0) else oR As s (0,-1)
theorem Kf:∀(c:List Au) (s:List Int) (b:Nat×Int),b.1<=s.length->(b.2≠-1->0<b.1)->(oR c s b).1<=s.length/\((oR c s b).2≠-1->0<(oR c s b).1):=by
 intro f
 induction f with
 |nil=>
  intro _ _ h a
  exact ⟨h,a⟩
 |cons A r d=>
  intro s b h a
  rw [uM]
  by_cases e:b.2= -1
  .rw [if_pos e];exact d s _ (FD A s).1 (FD A s).2
  .rw [if_neg e];exact d s b h a
theorem q8 (a:List Au) (b:0<a8.length):(fY a a8).1<=a8.length/\0<(fY a a8).1:=by
 have:=Kf a a8 (0,-1) (fy _) (λh=>absurd rfl h)
 unfold fY
 by_cases h:(oR a a8 (0,-1)).2= -1
 .rw [if_pos h];exact ⟨b,j9⟩
 .rw [if_neg h];exact ⟨this.1,this.2 h⟩
noncomputable def iF (next:List Int->Nat×Int):Nat->List Int->List Int
 |0,_=>[]
 |_+1,[]=>[]
 |f+1,g::r=>(next (g::r)).2::iF next f ((g::r).drop (next (g::r)).1)
theorem q9 (d:Ev i e b g (.tup j)) (c:jN C (.tup j) e=some bP) (a:2<=C.length) (h:jo PG i ah bP b ag):jo PG i (.cons (.s_ C g) ah) e b ag:=d _ (pg _ _ rfl c a h)
theorem QG (j:Ev i e b g l) (h:oi b (λa f=>f.foldr (λx k e b=>a.ok b/\∃c,jN C x e=some c/\ jo PG i bg c b λd e b=>(match d with | .next=>k e b | .brk=>Nx i ah ag .next e b | .ret l=>Nx i ah ag (.ret l) e b)) (λe b=>a.ok b/\Nx i ah ag .next e b) e b) l):jo PG i (.cons (.kg C g bg) ah) e b ag:=j _ h
theorem FE (c:Ev i e b g (.ref a)) (f:b a=some (.list j)) (d:j.length<fF) (k:Ev i e b D l) (h:jo PG i ah e (b.set a (.list (j++[l]))) ag):jo PG i (.cons (.ex (.fM g 0 (.cons D .nil))) ah) e b ag:=
 IW c f (.inl rfl) (iJ k) (.app d h)
theorem vl (a:List Int->Nat×Int) (b:∀s,0<s.length->0<(a s).1):∀(f:Nat) (s:List Int),s.length<=f->iF a f s=iF a s.length s
 |0,s,h=>by
  have:s=[]:=gU.mp (by exact Nat.eq_zero_of_le_zero h)
  clear b h;subst this;rfl
 |f+1,[],_=>rfl
 |f+1,g::s,h=>by
  have d:=b (g::s) (fB _)
  have c:((g::s).drop (a (g::s)).1).length<=s.length:=by rw [ey,e_];exact j8 (d7 d _)
  rw [e_] at h
  show (a (g::s)).2::iF a f _=(a (g::s)).2::iF a s.length _
  rw [vl a b f _ (by exact a_ c (gZ h)),vl a b s.length _ c]
inductive rM (st:AS):List Nat->List Au->Prop where
 |nil:rM st [] []
 |cons {t:Nat} {A:Au} {ts:List Nat} {As:List Au} (h:mY st t A) (o:A.Ok) (r:rM st ts As):rM st (t::ts) (A::As)
variable {dh:List Au}
theorem rM.get (h:rM b C dh) {i:Nat} (e:C[i]? =some a):∃A,dh[i]? =some A/\mY b a A/\A.Ok:=by
 induction h generalizing i with
 |nil=>contradiction
 |cons h o _ c=>
  induction i using ji with
  |zero=>clear c;(injection e with e;subst e);exact gr _ rfl h o
  |succ i=>exact c e
theorem rM.len (h:rM b C dh):C.length=dh.length:=by
 induction h with
 |nil=>rfl
 |cons _ _ _ a=>exact congrArg rV a
theorem AQ {d r:List t} (b:dq.map dA=d++dW::r):∃y,dq[d.length]? =some y/\dW=dA y:=by
 have:(dq.map dA)[d.length]? =some dW:=by rw [b];simp
 rw [ee] at this
 refine eS (fW.mp this) λy a e=>?_
 exact ej y a e.symm
theorem uN (I:6<=a) (H:b d=some (.list (C.map .ref))) (S:rM b C dh) (G:b o=some (.list (a8.map .int))) (R:a8.length<=10000) (L:∀c,b.free c->n (.ref c) (b.set c (.list ((iF (fY dh) a8.length a8).map .int)))):eE PG a (.fn 52) [.ref d,.ref o] b n:=by
 obtain ⟨a,rfl⟩:∃kq,a=kq+2:=oK (a -2) (by exact UL I)
 refine gP [some (.ref d),some (.ref o),none,none,none,none,none] (by exact Qo I) rfl rfl ?_
 intro c W
 refine g9 d3 ?_
 refine CH (λN (m:MM) h=>∃(p:Nat) (j:List Int) (w4 T u:Option AV),m=[some (.ref d),some (.ref o),some (.ref c),some (.int p),w4,T,u]/\h=b.set c (.list (j.map .int))/\p<=a8.length/\N=a8.length -p/\j.length<=p/\
  j++iF (fY dh) (a8.length -p) (a8.drop p)=iF (fY dh) a8.length a8)
  ⟨0,[],none,none,none,rfl,rfl,(fy _),rfl,(eJ _),rfl⟩ ?_
 intro N m h kJ K V;refine Dl kJ λp j w4 T u ku kB M kF Q z=>?_;subst ku;subst kB;subst kF
 have y:eD b (b.set c (.list (j.map .int))):=mV W.1
 refine f' (fV (a5 rfl) (jd (a5 rfl) (f9 (y _ _ G))) (n_ rfl)) _ ?_
 rw [bb]
 by_cases w:p<a8.length
 .rw [decide_eq_true (show (p:Int)<(a8.length:Int) by exact (λ{a m}=>h9.mpr) w),if_pos rfl]
  have kn:0<(a8.drop p).length:=by rw [ey];exact Nat.zero_lt_sub_of_lt w
  have kl:a8.drop p=a8[p]::a8.drop (p+1):=fQ w
  have kG:j++(fY dh (a8.drop p)).2::iF (fY dh) (a8.length - (p+(fY dh (a8.drop p)).1)) (a8.drop (p+(fY dh (a8.drop p)).1))=iF (fY dh) a8.length a8:=by
   refine iK (q8 dh kn) λB E=>?_
   rw [ey] at B
   rw [<-z,<-ig]
   obtain ⟨f,U⟩:∃f,a8.length -p=f+1:=oK (a8.length -p -1) (by exact Of (d:=0) (iX w))
   rw [U]
   have e1:iF (fY dh) (f+1) (a8.drop p)=(fY dh (a8.drop p)).2::iF (fY dh) f ((a8.drop p).drop (fY dh (a8.drop p)).1):=by rw [kl];rfl
   have km:((a8.drop p).drop (fY dh (a8.drop p)).1).length=a8.length - (p+(fY dh (a8.drop p)).1):=by rw [ey,ey];exact UD a8.length p (fY dh (v3 p a8)).fst
   rw [e1,vl _ (λs hs=>(q8 dh hs).2) f _ (by rw [km];exact WX E U),km]
  refine q9 (g6 (iL (a5 rfl) d3)) rfl (by decide) (QG (a5 rfl) (gI (y _ _ H) ?_))
  refine vi (λ(J:List AV) (m:MM) h=>b.set c (.list (j.map .int))=h/\∃(i:Nat×Int) (u:Option AV),m=[some (.ref d),some (.ref o),some (.ref c),some (.int p),some (.int (p+i.1:Nat)),some (.int i.2),u]/\oR (dh.drop J.length) (a8.drop p) i=oR dh (a8.drop p) (0,-1))
   (Df rfl (0,-1) _ rfl rfl) ?_ ?_
  .intro J x l m O e kx K2 Y;refine Lq O m kx λi u r=>?_
   refine Lg x (AQ e) λt kK=>?_
   refine gj (S.get kK) λA Z kI kC=>?_
   refine tO (y _ _ H) _ rfl (ki (f' (fV (a5 rfl) d3 (eq_int rfl))) (λg=>?_) λg=>?_)
   .have g:i.2= -1:=of_decide_eq_true g
    have kH:dh.drop J.length=A::dh.drop (J.length+1):=by
     obtain ⟨P,h2⟩:=ew.mp Z
     rw [fQ P,h2]
    rw [kH,uM,if_pos g] at r
    refine q9 (j:=[.int (p+(j6 A (a8.drop p)).1:Nat),.int (j6 A (a8.drop p)).2]) (λn L=>g7 d3 (vD (a5 rfl) (a5 rfl) (a5 rfl)) (xy (by exact eX I) (kI.le y) kC (y _ _ G) (by exact a_ R (by decide)) M (by rw [CK];exact L))) rfl (by decide) ?_
    exact Y _ _ (Df rfl (j6 A (a8.drop p)) _ rfl (by rw [bh];exact r))
   .have g:i.2≠-1:=of_decide_eq_false g
    refine Y _ _ (Df rfl i _ rfl ?_)
    rw [bh]
    obtain ⟨P,h2⟩:=ew.mp Z
    rw [fQ P,uM,if_neg g] at r
    exact r
  .intro m O kM;refine Lq O m kM λi u r=>?_
   rw [bb,S.len,ou] at r
   have r:i=oR dh (a8.drop p) (0,-1):=r
   have X:∀(q:Nat×Int) (u:Option AV),q=fY dh (a8.drop p)->jo PG (eE PG (a+1)) (.cons (.ex (.fM (.var 2) 0 (.cons (.var 5) .nil))) (.cons (.asg 3 (.var 4)) .nil)) [some (.ref d),some (.ref o),some (.ref c),some (.int p),some (.int (p+q.1:Nat)),some (.int q.2),u] (b.set c (.list (j.map .int)))
    (λD m h=>match D with
     | .next=>K m h
     | .brk=>Nx (eE PG (a+1)) (.cons (.ret (.var 2)) .nil) (λD _ h=>∃F,eD F h/\n (y7 D) F) .next m h
     | .ret v=>Nx (eE PG (a+1)) (.cons (.ret (.var 2)) .nil) (λD _ h=>∃F,eD F h/\n (y7 D) F) (.ret v) m h):=by
    intro q u kD;subst kD
    refine iK (q8 dh kn) λB E=>?_
    rw [ey] at B
    refine FE (a5 rfl) (gX _ _ _) (by rw [bb];unfold fF;exact c_ Q (ei w (a_ R (by decide)))) (a5 rfl) (g9 (a5 rfl) ?_)
    refine V _ _ _ ?_ ⟨(p+(fY dh (a8.drop p)).1),(j++[(fY dh (a8.drop p)).2]),_,_,_,rfl,?_,(by exact WY B E),rfl,?_,?_⟩
    .exact WZ B E
    .rw [Oe,b_];rfl
    .rw [bh];show j.length+1<=_;exact fP Q E
    .rw [eC];exact kG
   refine ⟨y _ _ H,ki (f' (fV (a5 rfl) d3 (eq_int rfl))) (λg=>?_) λg=>?_⟩
   .have g:i.2= -1:=of_decide_eq_true g
    have kz:(a8.map AV.int)[p]? =some (.int a8[p]):=by rw [ee,dj w];rfl
    refine q9 (g6 (iL (ia (a5 rfl) d3 rfl) (ft (a5 rfl) (y _ _ G) (a5 rfl) kz))) rfl (by decide) ?_
    refine X (1,a8[p]) _ ?_
    unfold fY
    rw [<-r,if_pos g,kl];rfl
   .have g:i.2≠-1:=of_decide_eq_false g
    refine X i _ ?_
    unfold fY
    rw [<-r,if_neg g]
 .rw [decide_eq_false (show ¬(p:Int)<(a8.length:Int) by exact λq=>w (h9.mp q)),if_neg gM]
  have ky:p=a8.length:=by exact ir M (mN w)
  clear H S G R I M V Q y w;subst ky
  rw [jB] at z
  have z:j++[]=_:=z
  rw [eR] at z
  subst z
  show jo PG _ (w0.cons (CS.ret (CE.var 2)) w0.nil) _ _ _
  exact iM (a5 rfl) (ej _ (ed _) (L c W))
theorem AS.RG (f:eD b q):eD (b.set a ay) (q.set a ay):=λx d e=>by
 by_cases c:x=a
 .subst c;rw [gX] at e⊢;exact e
 .rw [gw c] at e⊢;exact f x d e
theorem BX (f:7<=d) (p:mY b a r) (i:r.Ok) (h:b o=some (.list (a8.map .int))) (j:a8.length<=10000) (g:∀c,b.free c->n (.ref c) (b.set c (.list ((iF (fY [r]) a8.length a8).map .int)))):eE PG d (.fn 53) [.ref a,.ref o] b n:=by
 obtain ⟨d,rfl⟩:∃k,d=k+1:=oK (d -1) (by exact Of f)
 refine gP [some (.ref a),some (.ref o)] (by exact Qo f) rfl rfl (ej _ rfl (λc l=>⟨_,rfl,?_⟩))
 have e:eD b (b.set c (.list [.ref a])):=mV l.1
 exact uN (C:=[a]) (dh:=[r]) (by exact eX f) (gX _ _ _) (.cons (p.le e) i .nil) (e _ _ h) j λq m=>ej _ (AS.RG e) (g q (AS.Hb e m))
inductive zi (st:AS) (a:Nat) (s:List (Int×Nat)):Prop where
 |mk (dx d:Nat) (h0:st a=some (.inst 0 dx [(33,.ref d)])) (h1:st d=some (.dict (dV s))):zi st a s
theorem zi.le (h:zi b a aD) (c:eD b q):zi q a aD:=let ⟨g,d,e,f⟩:=h;⟨g,d,c _ _ e,c _ _ f⟩
theorem sd (g:3<=d) (h:zi b a aD) (c:n (.int (((aD.lookup p).getD 0:Nat))) b):eE PG d (.fn 2) [.ref a,.int p] b n:=by
 obtain ⟨d,rfl⟩:∃k,d=k+1:=oK (d -1) (by exact Of g)
 obtain ⟨l,j,i,f⟩:=h
 refine gP [some (.ref a),some (.int p)] (by exact eX g) rfl rfl (DQ (eO (a5 rfl) i rfl) f (.inl rfl) (iL (a5 rfl) d3 _ ?_))
 refine ej _ f (.G' (nP _) ?_)
 induction e:aD.lookup p using d_ with
 |some t=>
  rw [e] at c
  exact .inl (Dg _ (rL e) b (ed _) c)
 |none=>
  rw [e] at c
  exact .inr (tO (DR e) b (ed _) c)
theorem AR (h:VE PG i g e b λv b=>ag (.ret v) e b):jo PG i (.cons (.ret g) ah) e b ag:=h
theorem QH (a:Ev i e b g l) (h:VE PG i D e b λw b=>pW b (λr=>n (.bool r) b) bI l w):VE PG i (.cmp g bI D) e b n:=a _ h
noncomputable def jF (A:Au):Nat->List Int->Bool
 |k,[]=>!(A.at k).isEmpty
 |k,g::r=>match A.step k g with
  |none=>false
  |some t=>jF A t r
structure Ua (st:AS) (f dx t l:Nat) (A:Au) (held:List Int):Prop where
 obj:st f=some (.inst 7 dx [(56,.ref t),(57,.ref l)])
 list:st l=some (.list (held.map .int))
 au:mY st t A
 ok:A.Ok
theorem DT (q:5<=a) (h:Ua b d o I ak r a8) (j:n (.bool (jF r 0 a8)) b):eE PG a (.fn 55) [.ref d] b n:=by
 obtain ⟨a,rfl⟩:∃k,a=k+1:=oK (a -1) (by exact Of q)
 refine gP [some (.ref d),none,none] (by exact Qo q) rfl rfl (g9 d3 (QG (eO (a5 rfl) h.obj rfl) (gI h.list ?_)))
 obtain ⟨O,P,N,M,p⟩:=id h.au
 refine vi (λ(v:List AV) (m:MM) G=>b=G/\∃(k:Nat) (w:Option AV),m=[some (.ref d),some (.int k),w]/\k<r.steps.length/\jF r k (a8.drop v.length)=jF r 0 a8) (nX rfl 0 none rfl h.ok.pos rfl) ?_ ?_
 .intro v x Q m _ e B K F;refine Dk B λs k w t y f=>?_;clear B;subst s;subst t
  refine Lg x (AQ e) λg C=>?_
  obtain ⟨J,E⟩:=ew.mp C
  rw [fQ J,E] at f
  refine tO h.list _ rfl (g9 (λn j=>jr (eO (a5 rfl) h.obj rfl) p.obj rfl rfl rfl (iL (a5 rfl) (a5 rfl)) (yw (by exact Qo q) h.au y j)) ?_)
  refine ki (f' (fV (a5 rfl) d3 (eq_int rfl))) (λl=>?_) λl=>?_
  .have u:r.step k g=none:=by
    induction i:r.step k g using d_ with
    |none=>rfl
    |some I=>
     rw [i] at l
     have:((I:Nat):Int)= -1:=of_decide_eq_true l
     exact (JA this.symm).elim
   have f:jF r 0 a8=false:=by
    rw [<-f]
    show (match r.step k g with |none=>false |some I=>jF r I _)=false
    rw [u]
   rw [f] at j
   exact iM d3 (ej _ (ed _) j)
  .induction i:r.step k g using d_ with
   |none=>rw [i] at l;exact absurd l (by decide)
   |some H=>
    refine F _ _ (nX rfl H _ rfl (oa h.ok i) ?_)
    rw [bh,<-f]
    show _=(match r.step k g with |none=>false |some I=>jF r I _)
    rw [i];rfl
 .intro m _ A;refine Dk A λs k w t y f=>?_;clear q A;subst s;subst t
  rw [bb,ou] at f
  refine eS (p.dict y) λv D u=>?_
  refine ⟨h.list,?_⟩
  refine AR (QH (ft (eO (eO (a5 rfl) h.obj rfl) p.obj rfl) p.steps (a5 rfl) D) ?_)
  refine gr [] rfl eI (λc i=>?_)
  have z:eD b (b.set c (.dict [])):=mV i.1
  refine .ne (.Ij (z _ _ u) (nP _) (gX _ _ _)) (ej b z ?_)
  have f:(!(r.at k).isEmpty)=jF r 0 a8:=f
  rw [<-f] at j
  have L:(dV (r.at k)).isEmpty=(r.at k).isEmpty:=by unfold dV;exact List.isEmpty_map ..
  show n (.bool (!(dV (r.at k)).isEmpty)) b
  rw [L];exact j
theorem AU:cut j (.int a) .none=some (j.drop a):=if_pos (c:=(0:Int)<=(a:Int)) (e:=none) (gE a)
theorem HA:cut j .none (.int a)=some (j.take a):=if_pos (c:=(0:Int)<=(a:Int)) (e:=none) (gE a)
theorem IX:cut j (.int a) (.int d)=some ((j.take d).drop a):=if_pos (c:=(0:Int)<=(a:Int)/\(0:Int)<=(d:Int)) (e:=none) ⟨gE a,gE d⟩
theorem MU (l:Ev i e b g (.ref a)) (k:b a=some (.list j)) (f:Ev i e b D (.int d)) (h:∀c,b.free c->n (.ref c) (b.set c (.list (j.drop d)))):VE PG i (.tY g D (.cst .none)) e b n:=l _ (f _ (.list k AU h))
theorem IY (c:Ev i e b g (.ref d)) (f:b d=some (.inst o I aS)) (h:jo PG i ah e (b.set d (.inst o I (iy aS a l))) ag):
 VE PG i g e b (λj b=>w_ b (λd o I aS=>Nx i ah ag .next e (b.set d (.inst o I (iy aS a l)))) j):=c _ (.mk f h)
theorem qN (A:Au) (s:List Int):fY [A] s=if (j6 A s).2= -1 then (1,s.headD 0) else j6 A s:=rfl
theorem FF (i:6<=a) (h:Ua b d o I ak r a8) (x:0<a8.length) (m:a8.length<=10000) (f:∀c,b.free c->n (.int (fY [r] a8).2) ((b.set c (.list ((a8.drop (fY [r] a8).1).map .int))).set d (.inst 7 o [(56,.ref I),(57,.ref c)]))):eE PG a (.fn 56) [.ref d] b n:=by
 obtain ⟨a,rfl⟩:∃t,a=t+1:=oK (a -1) (by exact Of i)
 have j:∀(q:Nat×Int),q=fY [r] a8->jo PG (eE PG a) (.cons (.iA (.var 0) 57 (.tY (.attr (.var 0) 57) (.var 1) (.cst .none))) (.cons (.ret (.var 2)) .nil)) [some (.ref d),some (.int q.1),some (.int q.2)] b (λv _ w=>∃s,eD s w/\n (y7 v) s):=by
  intro q u;subst u
  refine MU (eO (a5 rfl) h.obj rfl) h.list (a5 rfl) λc p=>?_
  refine IY (a5 rfl) (by rw [gw (p.ne h.obj)];exact h.obj) (iM (a5 rfl) (ej _ (ed _) ?_))
  rw [<-oU]
  exact f c p
 refine gP [some (.ref d),none,none] (by exact Qo i) rfl rfl ?_
 refine q9 (j:=[.int (j6 r a8).1,.int (j6 r a8).2]) (λn f=>g7 d3 (vD (eO (a5 rfl) h.obj rfl) (eO (a5 rfl) h.obj rfl) d3) (xy (by exact eX i) h.au h.ok h.list (by exact a_ m (by decide)) (I:=0) (fy _) f)) rfl (by decide) ?_
 refine ki (f' (fV (a5 rfl) d3 (eq_int rfl))) (λe=>?_) λe=>?_
 .have e:(j6 r a8).2= -1:=of_decide_eq_true e
  have l:(a8.map AV.int)[0]? =some (.int a8[0]):=by rw [ee,dj x];rfl
  refine q9 (g6 (iL d3 (ft (d:=0) (eO (a5 rfl) h.obj rfl) h.list d3 l))) rfl (by decide) (j (1,a8[0]) ?_)
  rw [qN,if_pos e]
  clear h m f i j e l;clear e;induction a8 using el with
  |nil=>contradiction
  |cons g y=>rfl
 .have e:(j6 r a8).2≠-1:=of_decide_eq_false e
  exact j (j6 r a8) (by rw [qN,if_neg e])
noncomputable def Al (X:Ak) (m:MM) (st:AS) (e:CE) (P:AV->AS->Prop):Prop:=∀Q:AV->AS->Prop,(∀v st',eD st st'->P v st'->Q v st')->VE PG X e m st Q
noncomputable def Cl (X:Ak) (f:AV) (vs:List AV) (st:AS) (P:AV->AS->Prop):Prop:=∀Q:AV->AS->Prop,(∀v st',eD st st'->P v st'->Q v st')->X f vs st Q
noncomputable def At (X:Ak) (m:MM) (st:AS) (e:CE) (b:Bool):Prop:=∀Q:Bool->AS->Prop,(∀st',eD st st'->Q b st')->VT PG X e (VE PG X e) m st Q
structure sf (st st':AS) (c:Nat) (o:AO):Prop where
 le:eD st st'
 at_:st' c=some o
 fr:st c=none
structure Upd (st st':AS) (a:Nat) (o:AO):Prop where
 at_:st' a=some o
 ne:∀b,b≠a->st' b=st b
structure i0 (s0 st:AS) (c:Nat) (o:AO):Prop where
 at_:st c=some o
 fr:s0 c=none
theorem fN (h:b.free a):sf b (b.set a ay) a ay:=⟨mV h.1,gX _ _ _,h.1⟩
theorem pv:Upd b (b.set a ay) a ay:=⟨gX _ _ _,λ_ h=>gw h⟩
theorem Upd.le (h:Upd b ax a ay) (d:eD q b) (g:q a=none):eD q ax:=λx c e=>by
 rw [h.ne x λf=>by rw [f,g] at e;contradiction];exact d x c e
theorem sf.ne (h:sf b q a ay) (c:b d=some cF):d≠a:=λe=>by rw [e,h.fr] at c;contradiction
theorem sf.own {s0:AS} (h:sf b q a ay) (c:eD s0 b):i0 s0 q a ay:=⟨h.at_,jE c h.fr⟩
theorem i0.le (h:i0 q b a ay) (c:eD b ax):i0 q ax a ay:=⟨c _ _ h.at_,h.fr⟩
theorem i0.keep (h:i0 q b a ay) (u:Upd b ax d cF) (c:a≠d):i0 q ax a ay:=⟨(u.ne a c).trans h.at_,h.fr⟩
theorem Upd.own {s0:AS} (u:Upd b q a ay) (h:s0 a=none):i0 s0 q a ay:=⟨u.at_,h⟩
theorem jG (h:Ev i e b g l) (c:n l b):Al i e b g n:=λQ a=>h _ (a _ _ (ed _) c)
variable {bw:AV->AS->Prop}
theorem qo (h:Al i e b g n) (f:∀v a,eD b a->n v a->bw v a):Al i e b g bw:=λQ d=>h _ λv a c q=>d v a c (f v a c q)
theorem gy (c:Ev i e b g l) (d:IV i e b ar j) (h:Cl i l j b n):Al i e b (.call g ar) n:=λQ a=>c _ (d _ (h Q a))
theorem xA (o:Al i e b g bw) (h:∀v a,eD b a->bw v a->Cl i l [v] a n):Al i e b (.call (.cst l) (.cons g .nil)) n:=
 λQ d=>o _ λv m c p=>h v m c p Q λw f j k=>d w f (b4 c j) k
theorem pw (h:Tv i e b g aw):At i e b g aw:=λQ a=>h _ (a _ (ed _))
theorem wo (h:Al i e b (.cmp g bI D) λv _=>v= .bool aw):At i e b (.cmp g bI D) aw:=λQ a=>h _ λv c d f=>by subst f;exact ej _ (.bool _) (a c d)
theorem rN (h:Al i e b (.call g ar) λv _=>v= .bool aw):At i e b (.call g ar) aw:=λQ a=>h _ λv d f c=>by subst c;exact ej _ (.bool _) (a d f)
theorem MV (h:Al i e b (.fM g a ar) λv _=>v= .bool aw):At i e b (.fM g a ar) aw:=λQ c=>h _ λv d f j=>by subst j;exact ej _ (.bool _) (c d f)
theorem yx (h:At i e b g aw):At i e b (.not g) (!aw):=λQ a=>h _ a
theorem DU (h:At i e b g aw) (j:aw=true->∀d,eD b d->At i e d D bN):At i e b (.and g D) (aw&&bN):=λQ c=>h _ λl a=>by
 clear h;induction aw with
 |true=>exact j rfl l a _ λf k=>c f (b4 a k)
 |false=>exact c _ a
theorem FG (h:At i e b g aw) (j:aw=false->∀d,eD b d->At i e d D bN):At i e b (.or g D) (aw||bN):=λQ c=>h _ λl a=>by
 clear h;induction aw with
 |false=>exact j rfl l a _ λf k=>c f (b4 a k)
 |true=>exact c _ a
theorem AW (m:Al i e b g bw) (j:∀v a,eD b a->bw v a->Al i e a D λw c=>∀Q:Bool->Prop,(∀r,n (.bool r) c->Q r)->pW c Q bI v w):Al i e b (.cmp g bI D) n:=
 λQ f=>m _ λv a d o=>j v a d o _ λw c h k=>k _ λr l=>f _ _ (b4 d h) l
theorem jO (m:MM) (e:3<=a) (g:PG.fns[d]? =some de) (l:bindArgs de j=some m) (h:∀d,a=d+1->∀R:Fl->MM->AS->Prop,(∀v m c,eD b c->n v c->R (.ret v) m c)->jo PG (eE PG d) de.body m b R):Cl (eE PG a) (.fn d) j b n:=λQ f=>by
 obtain ⟨a,rfl⟩:∃d,a=d+1:=oK (a -1) (by exact Of e)
 exact gP m (by exact eX e) g l (h a rfl _ λv m c k i=>(ej c (ed _) (f v c k i)))
theorem uO (h:Cl i l j b n) (e:∀v a,eD b a->n v a->bw v a):Cl i l j b bw:=λQ d=>h _ λv a c q=>d v a c (e v a c q)
theorem yy (d:Al i e b g n) (h:∀v c,eD b c->n v c->jo PG i ah (e.set a (some v)) c ag):jo PG i (.cons (.asg a g) ah) e b ag:=d _ h
theorem sF (f:IV i e b ar j) (h:∀c d,sf b d c (.list j)->jo PG i ah (e.set a (some (.ref c))) d ag):jo PG i (.cons (.asg a (.lst ar)) ah) e b ag:=f _ λc g=>h c _ (fN g)
theorem zj (h:∀c d,sf b d c (.dict [])->jo PG i ah (e.set a (some (.ref c))) d ag):jo PG i (.cons (.asg a (.dict .nil)) ah) e b ag:=gr [] rfl eI (λc f=>h c _ (fN f))
theorem sg (c:Al i e b g n) (h:∀v a,eD b a->n v a->ag (.ret v) e a):jo PG i (.cons (.ret g) ah) e b ag:=c _ h
theorem pG {f:w0} (d:At i e b g aw) (h:∀a,eD b a->(aw=true->jo PG i bg e a (Nx i ah ag))/\(aw=false->jo PG i f e a (Nx i ah ag))):jo PG i (.cons (.iff g bg f) ah) e b ag:=d _ λa c=>by
 clear d;induction aw with
 |true=>exact (h a c).1 rfl
 |false=>exact (h a c).2 rfl
theorem s_end (h:jo PG i ah e b ag):jo PG i .nil e b (Nx i ah ag):=h
theorem qC (d:Ev i e b g (.ref a)) (k:b a=some (.list j)) (f:j.length<fF) (m:Ev i e b D l) (h:∀c,Upd b c a (.list (j++[l]))->jo PG i ah e c ag):jo PG i (.cons (.ex (.fM g 0 (.cons D .nil))) ah) e b ag:=
 FE d k f m (h _ pv)
noncomputable def Lp (X:Ak) (r:w0) (T:Fl->MM->AS->Prop) (K:MM->AS->Prop):Fl->MM->AS->Prop:=λfl m st=>match fl with | .next=>K m st | .brk=>jo PG X r m st T | .ret v=>T (.ret v) m st
noncomputable def MW (X:Ak) (tgt:List Nat) (b r:w0) (T:Fl->MM->AS->Prop) (m:MM) (v:AV) (st:AS):Prop:=
 oi st (λit xs=>xs.foldr (λx k m st=>it.ok st/\∃m',jN tgt x m=some m'/\jo PG X b m' st (Lp X r T k)) (λm st=>it.ok st/\jo PG X r m st T) m st) v
theorem q_ (c:Al i e b g n) (h:∀v a,eD b a->n v a->MW i C bg ah ag e v a):jo PG i (.cons (.kg C g bg) ah) e b ag:=c _ h
theorem oS (a:Ev i e b g l) (h:MW i C bg ah ag e l b):jo PG i (.cons (.kg C g bg) ah) e b ag:=a _ h
theorem iG (k:It) (g:List h) (f:h->AV) (q:∀Q:It->List AV->Prop,Q k (g.map f)->oi b Q l) (I:List h->MM->AS->Prop) (v:I [] e b) (m:∀d e a,I d e a->k.ok a) (t:∀d y j e a,g=d++y::j->I d e a->∀K:MM->AS->Prop,(∀o p,I (d++[y]) o p->K o p)->∃n,jN C (f y) e=some n/\jo PG i bg n a (Lp i ah ag K)) (u:∀e a,I g e a->jo PG i ah e a ag):MW i C bg ah ag e l b:=q _ (by
 rw [B8]
 refine vi I v (λd x j e a r c K s=>⟨m _ _ _ c,?_⟩) λe a c=>⟨m _ _ _ c,u e a c⟩
 exact t d x j e a r c K s)
theorem oN (N:Nat) (I:Nat->MM->AS->Prop) (p:I N e b) (k:∀N e c,I N e c->∀K:MM->AS->Prop,(∀l n o,l<N->I l n o->K n o)->∃t,At i e c g t/\∀a,eD c a->(t=true->jo PG i bg e a (Lp i ah ag K))/\(t=false->jo PG i ah e a ag)):
 jo PG i (.cons (.ET g bg) ah) e b ag:=CH I p λN e c f K d=>by
 refine eS (k N e c f K d) λt m h=>?_
 refine m _ λa j=>?_
 clear p k f d m;induction t with
 |true=>exact (h a j).1 rfl
 |false=>exact (h a j).2 rfl
noncomputable def FH (X:Ak) (elt:CE) (tgt:List Nat) (conds:wZ) (rest:Gens) (mc:MM) (Q:AV->AS->Prop) (v:AV) (st:AS):Prop:=
 oi st (λit xs=>xs.foldr (λx k acc st=>it.ok st/\∃m',jN tgt x mc=some m'/\Oi PG X conds m' st λt st=>if t then VG PG X (VE PG X elt) rest m' acc st k else k acc st)
  (λacc st=>it.ok st/\∀c,st.free c->Q (.ref c) (st.set c (.list acc))) [] st) v
variable {bz:List (Option Nat)}
theorem RH (d:Al i e b D bw) (h:∀v a,eD b a->bw v a->FH i g C ar bD (bz.map λc=>c.bind λj=>(e[j]?).join) n v a):
 VE PG i (.comp bz g C D ar bD) e b n:=d _ h
theorem DV (a:Ev i e b D l) (h:FH i g C ar bD (bz.map λc=>c.bind λj=>(e[j]?).join) n l b):
 VE PG i (.comp bz g C D ar bD) e b n:=a _ h
theorem tu (u:It) (o:List h) (f:h->AV) (z:∀n:It->List AV->Prop,n u (o.map f)->oi b n l) (I:List h->List AV->AS->Prop) (G:I [] [] b) (v:∀d j a,I d j a->u.ok a) (D:∀d y p j a,o=d++y::p->I d j a->∀K:List AV->AS->Prop,(∀r w,I (d++[y]) r w->K r w)->∃q,jN C (f y) e=some q/\Oi PG i ar q a λt b=>if t then VG PG i (VE PG i g) bD q j b K else K j b) (F:∀j a s c,I o j a->sf a s c (.list j)->n (.ref c) s):FH i g C ar bD e n l b:=z _ (by
 rw [B8]
 refine vi I G (λd x p m a A k K B=>⟨v _ _ _ k,?_⟩) λm a k=>⟨v _ _ _ k,λc E=>F m a _ c k (fN E)⟩
 exact D d x p m a A k K B)
noncomputable def Ub (X:Ak) (m:MM) (st:AS) (es:wZ) (b:Bool):Prop:=∀Q:Bool->AS->Prop,(∀st',eD st st'->Q b st')->Oi PG X es m st Q
theorem xB:Ub i e b .nil true:=λQ a=>a _ (ed _)
theorem tv (h:At i e b g aw):Ub i e b (.cons g .nil) aw:=λQ a=>h _ λd c=>by
 clear h;induction aw with
 |true=>exact a _ c
 |false=>exact a _ c
noncomputable abbrev gO (st:AS) (xs:List AV):AV->AS->Prop:=λv st'=>∃c,v= .ref c/\i0 st st' c (.list xs)
theorem tw (p:h->Bool) (s:h->AV) (l:List h) (f:h->AV) (T:l.length<=fF) (Y:Al i e b D n) (M:∀v m,eD b m->n v m->∃t:It,(∀k,eD m k->t.ok k)/\∀Q:It->List AV->Prop,Q t (l.map f)->oi m Q v) (U:∀y∈l,∀a,eD b a->∃r,jN C (f y) (bz.map λc=>c.bind λj=>(e[j]?).join)=some r/\Ub i r a ar (p y)/\(p y=true->∀k,eD a k->Al i r k g λv _=>v=s y)):
 Al i e b (.comp bz g C D ar .nil) (gO b ((l.filter p).map s)):=λQ G=>by
 refine RH Y λv m x z=>?_
 refine eS (M v m x z) λt R P=>?_
 refine tu t l f P (λd q a=>eD m a/\q=(d.filter p).map s) ⟨ed _,rfl⟩ (λd q a O=>R _ O.1) ?_ ?_
 .intro d y Z q a B S K E;refine Va q S λo=>?_
  refine gj (U y (by rw [B];simp) a (b4 x o)) λr W V I=>?_
  refine ej r W (V _ λk u=>?_)
  have H:((d.filter p).map s).length<fF:=by
   rw [bb]
   have X:=G0 p d
   have N:l.length=d.length+(Z.length+1):=by rw [B,bh,e_]
   exact c_ X (ei (UM N) T)
  induction w:p y with
  |true=>
   refine I w k u _ λv kl J z=>?_
   subst z
   exact ⟨H,E _ _ ⟨b4 o (b4 u J),by rw [xX,b_,k8 w];rfl⟩⟩
  |false=>exact E _ _ ⟨b4 o u,by rw [xX,k9 (by rw [w];exact gM)];simp⟩
 .intro q a k c L A;obtain ⟨o,rfl⟩:=L
  have F:=b4 x o
  exact G _ _ (b4 F A.le) (ej c rfl (A.own F))
variable {dE:h->AV}
theorem uP (p:h->Bool) (d:h->AV) (t:dq.length<=fF) (q:Ev i e b D (.ref a)) (m:b a=some (.list (dq.map dE))) (u:∀y∈dq,∀k,eD b k->∃l,jN C (dE y) (bz.map λc=>c.bind λj=>(e[j]?).join)=some l/\Ub i l k ar (p y)/\(p y=true->∀f,eD k f->Al i l f g λv _=>v=d y)):
 Al i e b (.comp bz g C D ar .nil) (gO b ((dq.filter p).map d)):=
 tw p d dq dE t (n:=λv s=>v= .ref a) (jG q rfl) (λv w n r=>by subst r;exact (ej (.list a _) (λf o=>o _ _ (n _ _ m)) (λQ=>gI (n _ _ m)))) u
theorem tx (m:h->AV) (u:dq.length<=fF) (s:Ev i e b D (.ref a)) (t:b a=some (.list (dq.map dE))) (l:∀y∈dq,∀d,eD b d->∃n,jN C (dE y) (bz.map λc=>c.bind λj=>(e[j]?).join)=some n/\Al i n d g λv _=>v=m y):
 Al i e b (.comp bz g C D .nil .nil) (gO b (dq.map m)):=by
 have:=uP (C:=C) (g:=g) (ar:=.nil) (bz:=bz) (λ_=>true) m u s t λy f d k=>gr (l y f d k).choose (l y f d k).choose_spec.1 xB (λ_ p q=>?_)
 .rwa [jv.mpr λ_ _=>rfl] at this
 .refine eS (l y f p (b4 k q)) λn o r=>?_
  rw [(l y f d k).choose_spec.1] at o
  cases d5 o;exact r
theorem FI (p:h->Bool) (a:h->AV) (q:dq.length<=fF) (n:Al i e b D (gO b (dq.map dE))) (r:∀y∈dq,∀f,eD b f->∃k,jN C (dE y) (bz.map λc=>c.bind λj=>(e[j]?).join)=some k/\Ub i k f ar (p y)/\(p y=true->∀d,eD f d->Al i k d g λv _=>v=a y)):
 Al i e b (.comp bz g C D ar .nil) (gO b ((dq.filter p).map a)):=
 tw p a dq dE q n (λv s t o=>by refine jj v o λc l=>?_;exact (ej (.list c _) (λd m=>m _ _ l.at_) (λQ=>gI l.at_))) r
theorem xC (l:h->AV) (q:dq.length<=fF) (s:Al i e b D (gO b (dq.map dE))) (k:∀y∈dq,∀a,eD b a->∃m,jN C (dE y) (bz.map λc=>c.bind λj=>(e[j]?).join)=some m/\Al i m a g λv _=>v=l y):
 Al i e b (.comp bz g C D .nil .nil) (gO b (dq.map l)):=by
 have:=FI (C:=C) (g:=g) (ar:=.nil) (bz:=bz) (λ_=>true) l q s λy d a f=>gr (k y d a f).choose (k y d a f).choose_spec.1 xB (λ_ o p=>?_)
 .rwa [jv.mpr λ_ _=>rfl] at this
 .refine eS (k y d o (b4 f p)) λm n r=>?_
  rw [(k y d a f).choose_spec.1] at n
  cases d5 n;exact r
theorem IZ (c:Ev i e b g l) (a:Al i e b D λx _=>x=af):Al i e b (.tup (.cons g (.cons D .nil))) λx _=>x= .tup [l,af]:=λQ d=>c _ (a _ λx j f h=>by clear c a;subst h;exact d _ _ f rfl)
noncomputable def jy (w lead:g_):Bool:=decide (w.take lead.length=lead)
noncomputable def mQ:List Row->List Row->List Row
 |f,[]=>f
 |f,r::rs=>mQ (if f.any (λq=>jy r.1 q.1) then f else f++[r]) rs
noncomputable def live (rs:List Row):List Row:=mQ [] rs
theorem FJ:∀(d:List Row) (f r:List Row),mQ f (d++r)=mQ (mQ f d) r:=by
 intro b
 induction b with
 |nil=>
  intro _ _
  exact rfl
 |cons x d a=>
  intro f r
  exact a _ r
theorem oY (d:List Row) (r:Row):live (d++[r])=if (live d).any (λq=>jy r.1 q.1) then live d else live d++[r]:=FJ d [] [r]
theorem xD:∀(d f:List Row),(mQ f d).Sublist (f++d):=by
 intro b
 induction b with
 |nil=>
  intro f
  rw [eR];exact .refl _
 |cons x d a=>
  intro f
  refine (a _).trans ?_
  split
  .exact .append_left (List.sublist_cons_self _ _) _
  .rw [eC];exact .refl _
theorem xE (d:List Row):(live d).length<=d.length:=(xD d []).length_le
variable {av:g_}
theorem rd (f:Ev i e b g (tI av)) (d:Ev i e b D (.int a)):Ev i e b (.tY g (.cst .none) D) (tI (av.take a)):=λQ c=>f _ (d _ (.tup HA (qh▸c)))
theorem AX (f:Ev i e b g (tI av)) (d:Ev i e b D (.int a)):Ev i e b (.tY g D (.cst .none)) (tI (av.drop a)):=λQ c=>f _ (d _ (.tup AU (oU▸c)))
theorem px (c:Ev (eE PG (a+1)) e b g (tI av)):Ev (eE PG (a+1)) e b (.call (.cst (.bi 0)) (.cons g .nil)) (.int av.length):=by
 have:=jd c (j:=av.map .int) (λ_ h=>.tup h)
 rwa [bb] at this
variable {bS:g_}
theorem AY (d:Ev i e b g (tI av)) (c:Ev i e b D (tI bS)):Ev i e b (.cmp g .eq D) (.bool (decide (av=bS))):=fV d c λQ a=>.eq MP a
theorem MX (d:Ev i e b g (tI av)) (c:Ev i e b D (tI bS)):Ev i e b (.cmp g .ne D) (.bool (!decide (av=bS))):=fV d c λQ a=>.ne MP a
theorem FL (d:n (.bool (jy av bS)) b):Cl (eE PG (a+3)) (.fn 32) [tI av,tI bS] b n:=
 jO [some (tI av),some (tI bS)] (df _ _) rfl rfl λk c R e=>by
  (injection c with c;subst c)
  exact iM (AY (rd (a5 rfl) (px (a5 rfl))) (a5 rfl)) (e _ _ _ (ed _) d)
theorem MY (r:Al i e b g (gO b j)) (q:∀x∈j,Plain x) (m:∀f,eD b f->n (.bool (decide (j=[]))) f):Al i e b (.cmp g .eq (.lst .nil)) n:=
 AW r λv u o s=>by
  refine jj v s λc p=>?_
  exact λQ k d a=>k _ _ (mV a.1) λt l=>.eq (.list ((fN a).le _ _ p.at_) (fN a).at_ q (λ_ h=>absurd h eg) _ decide_eq_true_iff) (l _ (m _ (b4 o (fN a).le)))
variable {a7:List Row}
theorem CL (w:b d=some (.list (a7.map ie))) (E:a7.length<=fF):Cl (eE PG (a+4)) (.fn 33) [.ref d] b (gO b ((live a7).map ie)):=
 jO [some (.ref d),none,none,none] (df _ _) rfl rfl λk u R G=>by
  (injection u with u;subst u)
  refine sF gQ λc I o=>?_
  refine oS (a5 rfl) (iG (.list d _) a7 ie (λQ=>gI (o.le _ _ w)) (λg m i=>eD b i/\i0 b i c (.list ((live g).map ie))/\∃p s,m=[some (.ref d),some (.ref c),p,s]) (qT o.le (o.own (ed _)) _ _ rfl) (λg m i h=>h.1 _ _ w) ?_ ?_)
  .intro g r L m i e D K y;refine rY m D λj f p s=>?_
   refine ej [some (.ref d),some (.ref c),some (tI r.1),some (.int r.2)] rfl ?_
   have z:(live g).length<fF:=c_ (xE g) (ei (by rw [e,bh,e_];exact gk (fB _)) E)
   refine pG (aw:=!(live g).any (λq=>jy r.1 q.1)) (wo (MY (uP (λq:Row=>jy r.1 q.1) (λq=>tI q.1) (eA z) (a5 rfl) f.at_ λq _ C H=>
    (gr [none,some (tI q.1),some (.int q.2),some (tI r.1)] rfl (tv (rN (gy d3 (iL (a5 rfl) (a5 rfl)) (FL rfl)))) (λ_ J _=>jG (a5 rfl) rfl))) (λx F=>?_) λB _=>?_)) λB l=>⟨λn=>?_,λn=>?_⟩
   .refine iQ x (ck.mp F) λq _=>?_
    exact xv _
   .refine congrArg AV.bool ?_
    rw [BE,decide_eq_true_iff,jt,jA,fL,nL]
   .refine qC (a5 rfl) (l _ _ f.at_) (by rw [bb];exact z) (g6 (iL (a5 rfl) (a5 rfl))) λC v=>?_
    refine y _ _ (qT (v.le (b4 j l) f.fr) ⟨?_,f.fr⟩ _ _ rfl)
    rw [v.at_,oY,if_neg (by rw [fL] at n;rw [n];exact gM),b_];rfl
   .refine y _ _ (qT (b4 j l) ?_ _ _ rfl)
    rw [oY,if_pos (by rwa [jM] at n)]
    exact f.le l
  .intro m i A;refine rY m A λj f p s=>?_
   exact iM (a5 rfl) (G _ _ _ j (ej c rfl f))
noncomputable def sortI (l:List Int):List Int:=l.mergeSort (λa b=>decide (a<=b))
theorem sortI_perm (l:List Int):(sortI l).Perm l:=wH _ _
theorem sG (l:List Int):(sortI l).Pairwise (·<=·):=(tJ (le:=λa b:Int=>decide (a<=b)) (λa b c e d=>decide_eq_true (jD (of_decide_eq_true e) (of_decide_eq_true d))) (λa b=>by
 rw [j1,decide_eq_true_iff,decide_eq_true_iff];exact S2 a b) l).imp λh=>of_decide_eq_true h
theorem MZ (a:a8.Nodup):(sortI a8).Pairwise (·<·):=
 (uY.mpr ⟨sG a8,(sortI_perm a8).symm.nodup a⟩).imp λh=>Int.lt_iff_le_and_ne.mpr h
theorem ip:p∈sortI a8↔p∈a8:=(sortI_perm a8).mem_iff
theorem DW:∀{u w:g_} (p:List AV),u<w->Lt (.tup (p++u.map .int)) (.tup (p++w.map .int))
 |[],[],p,h=>absurd h (oh _)
 |[],y::w,p,h=>by rw [pD,eR];exact .len p (.int y) _
 |x::u,[],p,h=>absurd h (OC _)
 |x::u,y::w,p,h=>by
  rcases G3.mp h with a |⟨e,a⟩
  .exact .tup p (.int x) (.int y) _ _ (.int a)
  .clear h;subst e
   have:=DW (p++[.int x]) a
   rwa [eC,eC] at this
variable {bj cM:Row}
theorem RI (h:bj.1<cM.1):Lt (ie bj) (ie cM):=.tup [] _ _ _ _ (DW [] h)
theorem DX (n:Nat) (w:g_):oO (n+1) (tI w):=.tup _ _ λx a=>by
 refine iQ x (ck.mp a) λi _=>?_;exact .int _ i
theorem PJ (r:Row):oO 4 (ie r):=.tup _ _ λx a=>by
 cases a with
 |head=>exact DX 2 _
 |tail _ a=>
  cases a with
  |head=>exact .int _ _
  |tail _ a=>exact (eg a).elim
theorem AZ (m:∀n:List AV->Prop,n j->ph b n l) (i:j.length<=5) (k:qX j) (d:aN.Perm j) (f:aN.Pairwise λa g=>Lt a g\/a=g) (h:∀c,b.free c->n (.ref c) (b.set c (.list aN))):Il 1 [l] b n:=
 .mk (m _ ⟨(c_ i (by decide)),k,(d.pairwise (f.imp λh=>h.elim .inl λe=>.inr (.inl e)) (λh=>h.elim (λh=>.inr (.inr h)) λh=>h.elim (λh=>.inr (.inl h.symm)) .inl)),aN,d,f,h⟩)
theorem sI (g:∀Q:List AV->Prop,Q (a8.map .int)->ph b Q l) (k:a8.length<=5):Cl (eE PG (a+1)) (.bi 1) [l] b (gO b ((sortI a8).map .int)):=λQ f=>
 jI (AZ g (by rwa [bb]) (.inl λx j=>by refine iQ x (ck.mp j) λi _=>?_;exact (oK i rfl)) ((sortI_perm a8).map _)
  (gi.mpr ((sG a8).imp λ{m n} h=>(Int.lt_or_eq_of_le h).elim (λh=>.inl (.int h)) λe=>.inr (congrArg _ e))) λc d=>f _ _ (mV d.1) (ej c rfl ((fN d).own (ed _))))
variable {aQ:List Row}
theorem A0 (f:∀Q:List AV->Prop,Q (a7.map ie)->ph b Q l) (n:a7.length<=5) (g:aQ.Perm a7) (k:aQ.Pairwise λi m=>i.1<m.1):Cl (eE PG (a+1)) (.bi 1) [l] b (gO b (aQ.map ie)):=λQ e=>
 jI (AZ f (by rwa [bb]) (.inr λx j=>by refine iQ x (ck.mp j) λr _=>?_;exact ⟨(PJ r),_,_,rfl⟩) (g.map _)
  (gi.mpr (k.imp λh=>.inl (RI h))) λc d=>e _ _ (mV d.1) (ej c rfl ((fN d).own (ed _))))
theorem p3 (l:Al (eE PG (a+1)) e b g (gO b j)) (h:∀d,eD b d->n (.tup j) d):Al (eE PG (a+1)) e b (.call (.cst (.bi 5)) (.cons g .nil)) n:=
 xA l λv o i m=>by
  refine jj v m λc k=>?_
  exact λQ f=>jI (.mk (.mk k.at_ (f _ _ (ed _) (h _ i))))
theorem M0 (l:Al (eE PG (a+1)) e b g (gO b (dq.map λy=>.bool (e9 y)))) (i:∀d,eD b d->n (.bool (dq.any e9)) d):Al (eE PG (a+1)) e b (.call (.cst (.bi 7)) (.cons g .nil)) n:=
 xA l λv o j m=>by
  refine jj v m λc k=>?_
  exact λQ f=>jI (.mk (.mk k.at_ (ej (dq.map e9) (by rw [et];rfl) (f _ _ (ed _) (by rw [List.any_map];exact i _ j)))))
theorem gO.mono (a:eD b ax) (h:gO ax j l q):gO b j l q:=eS h λc e h=>⟨c,e,h.at_,jE a h.fr⟩
theorem Kg (n:Al (eE PG (a+1)) e b g (gO b (a7.map ie))) (f:a7.length<=5) (d:aQ.Perm a7) (l:aQ.Pairwise λj m=>j.1<m.1):Al (eE PG (a+1)) e b (.call (.cst (.bi 1)) (.cons g .nil)) (gO b (aQ.map ie)):=
 xA n λv p k o=>by
  refine jj v o λc i=>?_
  exact uO (A0 (f9 i.at_) f d l) λv s _ h=>h.mono k
variable {dU:List (Int×Nat×List h)}
section
section
variable {γ:Type}
noncomputable def strip (E:List (Int×Nat×List γ)):List (Int×List γ):=E.map λe=>(e.1,e.2.2)
noncomputable def KW (E:List (Int×Nat×List γ)):List (AV×AV):=E.map λe=>(.int e.1,.ref e.2.1)
structure ML (f:γ->AV) (s0 st:AS) (d:Nat) (E:List (Int×Nat×List γ)):Prop where
 dict:st d=some (.dict (KW E))
 fr:s0 d=none
 ls:∀e∈E,st e.2.1=some (.list (e.2.2.map f))/\s0 e.2.1=none
 nd:(E.map λe=>e.2.1).Nodup
noncomputable def FN (s0 st:AS) (p:Nat):Prop:=∀b o,b≠p->s0 b=some o->st b=some o
noncomputable def Yo (s0 a b:AS):Prop:=∀x o,s0 x=some o->b x=a x
noncomputable def xF:List (Int×List γ)->Int->γ->List (Int×List γ)
 |[],k,x=>[(k,[x])]
 |p::T,k,x=>if p.1=k then (p.1,p.2++[x])::T else p::xF T k x
theorem CM {q:Int×List h} {T:List (Int×List h)}:xF (q::T) p dp=if q.1=p then (q.1,q.2++[dp])::T else q::xF T p dp:=rfl
theorem FO {b:List (Int×List h)}:∀{T:List (Int×List h)},p∉T.map (·.1)->xF (T++(p,dq)::b) p dp=T++(p,dq++[dp])::b:=by
 intro d
 induction d with
 |nil=>
  intro _
  exact if_pos rfl
 |cons f T c=>
  intro a
  rw [eG,eK,not_or] at a
  exact (if_neg λe=>a.1 e.symm).trans (congrArg _ (c a.2))
theorem FP:∀{T:List (Int×List h)},p∉T.map (·.1)->xF T p dp=T++[(p,[dp])]:=by
 intro c
 induction c with
 |nil=>
  intro _
  exact rfl
 |cons d T b=>
  intro a
  rw [eG,eK,not_or] at a
  exact (if_neg λe=>a.1 e.symm).trans (congrArg _ (b a.2))
theorem yz {E:List (Int×h)} (g:p∈E.map (·.1)):∃b a c,E=b++(p,a)::c/\p∉b.map (·.1):=by
 induction E with
 |nil=>contradiction
 |cons e E f=>
  by_cases d:e.1=p
  .exact ⟨[],e.2,E,congrArg (λz=>(z,e.2)::E) d,eg⟩
  .exact ya (f ((eK.mp g).resolve_left λe=>d e.symm)) λb a c q i=>⟨(e::b),a,c,congrArg (e::·) q,(λq=>(eK.mp q).elim (λq=>d q.symm) i)⟩
theorem rf (E:List (Int×Nat×List h)):(strip E).map (·.1)=E.map (·.1):=by unfold strip;rw [et];rfl
theorem uQ (E:List (Int×Nat×List h)):(KW E).map (·.1)=(E.map (·.1)).map .int:=by unfold KW;rw [et,et];rfl
theorem xG (E:List (Int×Nat×List h)):IntKeys (KW E):=λp a=>by
 refine iQ p (ck.mp a) λq _=>?_;exact ⟨q.1,rfl⟩
theorem qH:AV.int p∈a8.map AV.int↔p∈a8:=⟨λh=>by
 refine eS (ck.mp h) λj a e=>?_
 (injection e with e;subst e);exact a,λh=>ck.mpr (ej p h rfl)⟩
theorem ML.le (c:ML dE b q a dU) (d:eD q ax):ML dE b ax a dU:=⟨d _ _ c.dict,c.fr,λe f=>⟨d _ _ (c.ls e f).1,(c.ls e f).2⟩,c.nd⟩
theorem ML.same (c:ML dE b q a dU) (g:∀d,b d=none->ax d=q d):ML dE b ax a dU:=⟨(g _ c.fr).trans c.dict,c.fr,λe f=>⟨(g _ (c.ls e f).2).trans (c.ls e f).1,(c.ls e f).2⟩,c.nd⟩
theorem ML.grow {x:h} {k:List (Int×Nat×List h)} (c:ML dE b q a (dU++(p,d,dq)::k)) (u:Upd q ax d (.list ((dq++[x]).map dE))):ML dE b ax a (dU++(p,d,dq++[x])::k):=by
 have j:=c.ls (p,d,dq) (by simp)
 have i:=c.nd
 rw [b_,eG,eP,eT] at i
 refine ⟨?_,c.fr,λe l=>?_,?_⟩
 .rw [u.ne a λg=>by have:=c.dict;rw [g,j.1] at this;(injection this;contradiction)]
  have:=c.dict
  unfold KW at this⊢
  rw [b_,eG] at this⊢;exact this
 .rcases eF.mp l with f |f
  .have:=c.ls e (fR _ f)
   exact ⟨(u.ne _ λg=>i.2.2 _ (fE f) d (.head _) g).trans this.1,this.2⟩
  .clear l;rcases eK.mp f with rfl |f
   .exact ⟨u.at_,j.2⟩
   .have:=c.ls e (fT _ (.tail _ f))
    exact ⟨(u.ne _ λg=>i.2.1.1 (ck.mpr (ej e f g))).trans this.1,this.2⟩
 .have:=c.nd
  rw [b_,eG] at this⊢;exact this
theorem I1 {P:h->AS->Prop} (n:ML dE b q a dU) (J:∀c,q c=none->b c=none) (I:dU.length<fF) (Y:∀f∈dU,f.2.2.length<fF) (T:Ev i e q g (.ref a)) (V:Ev i e q D (.int p)) (U:∀j,FN q j a->∀Q:AV->AS->Prop,(∀d m,(∀k,b k=none->m k=j k)->P d m->Q (dE d) m)->VE PG i aL e j Q) (W:∀d O m G,P d m->Yo b m G->ML dE b G a O->strip O=xF (strip dU) p d->jo PG i ah e G ag):
 jo PG i (.cons (.ex (.fM (.fM g 2 (.cons D (.cons (.lst .nil) .nil))) 0 (.cons aL .nil))) ah) e q ag:=by
 have L:∀j ah l v w,FN q j a->ML dE b j a (v++(p,ah,l)::w)->l.length<fF->(∀d,strip (v++(p,ah,l++[d])::w)=xF (strip dU) p d)->
  yc PG i 0 j (λK=>Io PG i (.cons aL .nil) e j K) (λ_ q=>Nx i ‹w0› ag .next e q) (.ref ah):=by
  intro j ah l v w H s hl hs
  have z:=s.ls (p,ah,l) (by simp)
  refine .list z.1 (.inl rfl) (U j H _ λd m N hp=>(ej _ ((N ah z.2).trans z.1) (.app (by rw [bb];exact hl) (W d _ m _ hp (λk C f=>gw λr=>?_) ((s.same N).grow (x:=d) ⟨?_,λk u=>gw u⟩) (hs d)))))
  .rw [r,z.2] at f;contradiction
  .rw [gX,b_];rfl
 refine T _ (.dict n.dict (.inr rfl) (V _ λc y=>?_))
 have A:=fN (ay:=.list []) y
 have s:=n.le A.le
 have R:b c=none:=J c y.1
 have S:FN q (q.set c (.list [])) a:=λk C _ f=>A.le k C f
 refine ej _ s.dict (.Tg (xG _) ?_)
 by_cases B:p∈dU.map (·.1)
 .clear n J I T V U W y A R;refine ya (yz B) λv X w Z km=>?_;clear B;obtain ⟨E,F⟩:=X;subst Z
  refine .inl (ej (.ref E) (ck.mpr ⟨(p,E,F),by simp,rfl⟩) (L _ E F v w S s (Y (p,E,F) (by simp)) λd=>?_))
  unfold strip
  rw [b_,eG,b_,eG,FO]
  rw [et];exact km
 .refine .inr (iz (by rw [uQ,qH];exact B) (by unfold KW;rw [bb];exact I) ?_)
  have kl:c≠a:=λr=>by have:=n.dict;rw [<-r,y.1] at this;contradiction
  refine L _ c [] dU [] (λk C u f=>(gw u).trans (S k C u f)) ⟨?_,n.fr,λf t=>?_,?_⟩ (c_ (fy _) I) λd=>?_
  .rw [gX];unfold KW;rw [b_];rfl
  .rcases eF.mp t with t |t
   .have:=s.ls f t
    exact ⟨(gw λr=>by have M:=this.1;rw [r,s.dict] at M;(injection M;contradiction)).trans this.1,this.2⟩
   .cases dt.mp t
    exact ⟨(gw kl).trans A.at_,R⟩
  .rw [b_,eP]
   refine iz n.nd (eT.mpr ⟨eg,eI⟩) (λkn H k u=>?_)
   refine iQ kn (ck.mp H) λf t=>?_
   cases dt.mp u
   exact λr=>by have:=(n.ls f t).1;rw [r,y.1] at this;contradiction
  .rw [FP (by rw [rf];exact B)]
   unfold strip;rw [b_];rfl
end
end
structure QI (st:AS) (p N cl k v:Nat) (cs:List Int):Prop where
 obj:st p=some (.list [.ref cl,.int k,.int v])
 cells:st cl=some (.list (cs.map .int))
 ne:cl≠p
 pos:0<cs.length
 le:k<=N
inductive xH (st:AS) (p cl N:Nat):Prop where
 |mk (k v:Nat) (cs:List Int) (h0:QI st p N cl k v cs):xH st p cl N
theorem xH.mono (h:xH b a d o) (g:o<=I):xH b a d I:=let ⟨k,v,cs,i,j,c,f,e⟩:=h;⟨k,v,cs,i,j,c,f,a_ e g⟩
theorem xH.keep (h:xH b a d o) (f:eD b q):xH q a d o:=let ⟨k,v,cs,i,j,c,g,e⟩:=h;⟨k,v,cs,f _ _ i,f _ _ j,c,g,e⟩
noncomputable def BY (st st':AS) (p:Nat):Prop:=∀b,b≠p->st' b=st b
theorem A3 (o:Ev i e b aL l) (f:Ev i e b g (.ref a)) (m:b a=some (.list j)) (k:Ev i e b D (.int d)) (n:d<j.length) (h:∀c,Upd b c a (.list (j.set d l))->jo PG i ah e c ag):
 jo PG i (.cons (.tZ g D aL) ah) e b ag:=o _ (f _ (k _ (.list m (gE d) n (h _ pv))))
theorem HE (h:Ev i e b g (.int p)) (a:Ev i e b D (.int aB)) (c:p.natAbs<2 ^ 60\/aB.natAbs<2 ^ 60):Ev i e b (.bin .mul g D) (.int (p*aB)):=ia h a (if_pos c)
theorem I2 (b:0<a):¬(a:Int)=0:=λq=>oz b (rA q)
theorem M7 (h:Ev i e b g (.int a)) (c:Ev i e b D (.int d)) (f:0<d):Ev i e b (.bin .mod g D) (.int (a % d:Nat)):=ia h c (by
 show (if (d:Int)=0 then none else some (Int.fmod a d))=_
 rw [if_neg (I2 f),Int.ofNat_fmod])
theorem PK (h:Ev i e b g (.int a)) (c:Ev i e b D (.int d)) (f:0<d) (j:d<1000000):Ev i e b (.bin .fdiv g D) (.int (a / d:Nat)):=ia h c (by
 show (if (d:Int)=0\/1000000<=(d:Int).natAbs then none else some (Int.fdiv a d))=_
 rw [if_neg λq=>q.elim (I2 f) λq=>iY.mpr q j,Int.ofNat_fdiv])
theorem oZ (H:xH b d o I) (E:I<100000) (u:0<ak) (L:ak<100) (l:∀x q,x<ak->xH q d o (I+1)->BY b q d->n (.int (x:Nat)) q):eE PG (a+4) (.fn 72) [.ref d,.int ak] b n:=by
 obtain ⟨e,v,cs,c⟩:=H
 refine gP [some (.ref d),some (.int ak),none,none] (df 2 _) rfl rfl ?_
 have y:∀(e v:Nat) (w:Option AV) g,QI g d (I+1) o e v cs->BY b g d->jo PG (eE PG (a+3)) (.cons (.asg 3 (.bin .mod (.sub (.var 0) (.cst (.int 2))) (.var 1))) (.cons (.tZ (.var 0) (.cst (.int 2)) (.bin .fdiv (.sub (.var 0) (.cst (.int 2))) (.var 1))) (.cons (.ret (.var 3)) .nil)))
  [some (.ref d),some (.int ak),w,none] g (λG _ q=>∃z,eD z q/\n (y7 G) z):=λe v w g h F=>by
  refine g9 (M7 (ft (d:=2) (a5 rfl) h.obj d3 rfl) (a5 rfl) u) ?_
  refine A3 (d:=2) (PK (ft (d:=2) (a5 rfl) h.obj d3 rfl) (a5 rfl) u (gG L (by decide))) (a5 rfl) h.obj d3 (fH 2) λs j=>?_
  refine iM (a5 rfl) (ej _ (ed _) (l _ s (U8 _ u) ⟨e,v / ak,cs,j.at_,(j.ne _ h.ne).trans h.cells,h.ne,h.pos,h.le⟩ λp f=>(j.ne p f).trans (F p f)))
 refine ki (f' (fV (ft (d:=2) (a5 rfl) c.obj d3 rfl) d3 (eq_int rfl))) (λ_=>?_) λ_=>y e v _ b ⟨c.obj,c.cells,c.ne,c.pos,fZ c.le⟩ λp f=>rfl
 have C:=U8 e c.pos
 have J:(cs.map AV.int)[e % cs.length]? =some (.int cs[e % cs.length]):=by rw [ee,dj C];rfl
 have K:Ev (eE PG (a+3)) [some (.ref d),some (.int ak),none,none] b (.call (.cst (.bi 0)) (.cons (.sub (.var 0) (.cst (.int 0))) .nil)) (.int cs.length):=by
  have:=jd (a:=a+2) (e:=[some (.ref d),some (.int ak),none,none]) (ft (d:=0) (a5 (a:=0) rfl) c.obj d3 rfl) (f9 c.cells)
  rwa [bb] at this
 refine g9 (ft (ft (d:=0) (a5 rfl) c.obj d3 rfl) c.cells (M7 (ft (d:=1) (a5 rfl) c.obj d3 rfl) K c.pos) J) ?_
 refine A3 (d:=1) (ia (ft (d:=1) (a5 rfl) c.obj d3 rfl) d3 rfl) (a5 rfl) c.obj d3 (ei (fH 1) (vZ 2)) λg j=>?_
 have A:g d=some (.list [.ref o,.int (e+1:Nat),.int v]):=j.at_
 obtain ⟨t,D⟩:∃t:Nat,Ev (eE PG (a+3)) [some (.ref d),some (.int ak),some (.int cs[e % cs.length]),none] g (.ite (.cmp (.var 2) .lt (.cst (.int 0))) (.cst (.int 1)) (.cst (.int 0))) (.int t):=by
  by_cases f:cs[e % cs.length]<0
  .exact oK 1 (λn l=>f' (fV (a5 rfl) d3 (n_ (decide_eq_true f).symm)) _ l)
  .exact oK 0 (λn l=>f' (fV (a5 rfl) d3 (n_ (decide_eq_false f).symm)) _ l)
 have B:Ev (eE PG (a+3)) [some (.ref d),some (.int ak),some (.int cs[e % cs.length]),none] g (.sub (.var 0) (.cst (.int 1))) (.int (e+1:Nat)):=ft (d:=1) (a5 rfl) A d3 rfl
 refine A3 (d:=2) (ia (ia (ia (HE d3 (xw d3 (iJ (a5 rfl)) λn l=>jI (.mk (.mk l))) (.inl (by decide))) D rfl) (HE (HE d3 B (.inl (by decide))) B (.inr ?_)) rfl) d3 rfl) (a5 rfl) A d3 (fH 2) λs r=>s_end (y (e+1) (2*cs[e % cs.length].natAbs+t+7919*(e+1)*(e+1)+1) _ s ⟨r.at_,(r.ne _ c.ne).trans ((j.ne _ c.ne).trans c.cells),c.ne,c.pos,fh c.le⟩ λp f=>(r.ne p f).trans (j.ne p f))
 exact c_ (fh c.le) (gG (oy E) (by decide))
noncomputable abbrev Table:=List (Int×List Row)
noncomputable def DY (w:g_):Prop:=∀g∈w,1<=g/\g<=5
structure QJ (r:Row):Prop where
 gl:DY r.1
 len:r.1.length<=3
 HG:10<=r.2
structure vm (T:Table) (N:Nat):Prop where
 keys:(T.map (·.1)).Nodup
 gl:DY (T.map (·.1))
 rows:∀p∈T,∀r∈p.2,QJ r
 KX:(T.map λp=>p.2.length).sum<=N
 ne:∀p∈T,0<p.2.length
theorem yA (k:Int) (x:h):∀T:List (Int×List h),(xF T k x).map (·.1)=if k∈T.map (·.1) then T.map (·.1) else T.map (·.1)++[k]:=by
 intro T
 induction T with
 |nil=>rfl
 |cons p T c=>
  show (if p.1=k then _ else _:List (Int×List h)).map (·.1)=_
  by_cases a:p.1=k
  .rw [if_pos a,if_pos (by rw [<-a];exact .head _)];rfl
  .rw [if_neg a]
   show p.1::(xF T k x).map (·.1)=if k∈p.1::T.map (·.1) then p.1::T.map (·.1) else (p.1::T.map (·.1))++[k]
   rw [c]
   clear c;by_cases b:k∈T.map (·.1)
   .rw [if_pos b,if_pos (.tail _ b)]
   .rw [if_neg b,if_neg λq=>(eK.mp q).elim (λq=>a q.symm) b];rfl
theorem vn:∀{T:List (Int×List h)} {e},e∈xF T p dp->e∈T\/(e.1=p/\∃l,e.2=l++[dp]/\(l=[]\/(p,l)∈T)):=by
 intro i
 induction i with
 |nil=>
  intro e d
  cases dt.mp d;exact .inr (tO rfl [] rfl (.inl rfl))
 |cons q T g=>
  intro e d
  rw [CM] at d
  by_cases f:q.1=p
  .rw [if_pos f] at d
   rcases eK.mp d with rfl |d
   .exact .inr (tO f q.2 rfl (.inr (by rw [<-f];exact .head _)))
   .exact .inl (.tail _ d)
  .rw [if_neg f] at d
   clear f;rcases eK.mp d with rfl |d
   .exact .inl (.head _)
   .rcases g d with d |⟨a,l,b,c⟩
    .exact .inl (.tail _ d)
    .exact .inr (tO a l b (c.imp id (.tail _)))
theorem FQ (k:Int) (x:h):∀T:List (Int×List h),((xF T k x).map λp=>p.2.length).sum=(T.map λp=>p.2.length).sum+1:=by
 intro c
 induction c with
 |nil=>
  exact rfl
 |cons p T b=>
  rw [CM]
  by_cases a:p.1=k
  .rw [if_pos a,eG,jC,eG,jC,bh]
   exact g0 _ _ _
  .rw [if_neg a,eG,jC,eG,jC,b];rfl
variable {aU:Table}
theorem vm.add (h:vm aU a) (k:1<=p/\p<=5) (m:QJ bj):vm (xF aU p bj) (a+1) where
 keys:=by
  rw [yA]
  split
  .exact h.keys
  .rename_i n
   exact eP.mpr ⟨h.keys,eT.mpr ⟨eg,eI⟩,λs r b o q=>n (by rw [<-dt.mp o,<-q];exact r)⟩
 gl:=by
  rw [yA]
  split
  .exact h.gl
  .exact λg f=>(eF.mp f).elim (h.gl g) λf=>by rw [dt.mp f];exact k
 rows j c q d:=by
  clear k;rcases vn c with c |⟨rfl,l,e,i⟩
  .exact h.rows j c q d
  .rw [e] at d
   clear c e;rcases eF.mp d with d |d
   .clear m;rcases i with rfl |i
    .exact (eg d).elim
    .exact h.rows _ i q d
   .rw [dt.mp d];exact m
 KX:=by rw [FQ];exact fh h.KX
 ne j c:=by
  rcases vn c with c |⟨_,l,e,_⟩
  .exact h.ne j c
  .rw [e,bh];exact fB _
theorem FN.le (h:FN b q a) (f:eD q ax):FN b ax a:=λd o c e=>f _ _ (h d o c e)
theorem FN.same (h:FN b q a) (f:BY q ax a):FN b ax a:=λd o c e=>(f d c).trans (h d o c e)
theorem wq (a:Ev i e b g l) (h:VE PG i D e b λw b=>Aj b n bM l w):VE PG i (.bin bM g D) e b n:=a _ h
theorem jJ (h:VE PG i g e b λv b=>i l [v] b n):VE PG i (.call (.cst l) (.cons g .nil)) e b n:=h
theorem tA (c:d<=1000000) (h:n (.pU 0 d 1) b):eE PG (a+1) (.bi 4) [.int d] b n:=jI (ej [(d:Int)] rfl (.one ⟨fy _,c,h⟩))
theorem p4 (c:bH .pU ((eQ a).map λk=>.int (k:Nat))):oi b bH (.pU 0 a 1):=tr (a:=0) (by
 rw [show xx 0 a=(eQ a).map λk=>.int (k:Nat) by
  unfold xx;rw [Nat.sub_zero];exact fm λk _=>by rw [iW]]
 exact c)
theorem zk (F:xH b a d o) (t:o+I<100000) (m:∀x:AV,∃q,jN C x e=some q/\∀f (n:AV->AS->Prop) z,xH f a d z->z<100000->(∀h B,h<5->xH B a d (z+1)->BY f B a->n (.int (1+(h:Nat))) B)->VE PG i g q f n) (R:∀w l j c,w.length=I->DY w->xH l a d (o+I)->BY b l a->sf l j c (.list (w.map .int))->n (.ref c) j):FH i g C .nil .nil e n (.pU 0 I 1) b:=by
 refine tu .pU (eQ I) (λI=>.int (I:Nat)) (λn=>p4) (λh v f=>∃w:g_,v=w.map .int/\w.length=h.length/\DY w/\xH f a d (o+h.length)/\BY b f a) ⟨[],rfl,rfl,(by (repeat intro _);contradiction),F,(λ_ _=>rfl)⟩ (λ_ _ _ _=>trivial) ?_ ?_
 .intro h y U v f N O K P;refine zS O λw r k s p u=>?_;subst r
  refine eS (m (.int (y:Nat))) λq T L=>?_
  have E:h.length<I:=by
   have:=congrArg fj N
   rw [ff,bh] at this
   rw [this];exact gk (fB _)
  refine ej q T (L f _ _ p (c_ (d7 (eA E) _) t) λJ j H Q S=>⟨?_,P _ _ ⟨w++[1+(J:Int)],?_,?_,?_,?_,λG m=>(S G m).trans (u G m)⟩⟩)
  .rw [bb,k]
   exact ei (gG (ei E (df _ _)) t) (eJ _)
  .rw [b_];rfl
  .rw [bh,bh,k];rfl
  .refine λx A=>(eF.mp A).elim (s x) λA=>?_
   rw [dt.mp A];exact Ta H
  .rw [bh];exact Q
 .intro v l j c D M;refine zS D λw r k s p u=>?_;clear F t m D;subst r
  rw [ff] at k p
  exact R w l j c k s p u M
theorem je (h:VE PG i g e b λv b=>jo PG i ah (e.set a (some v)) b ag):jo PG i (.cons (.asg a g) ah) e b ag:=h
theorem A4 (h:VE PG i g e b λv a=>MW i C bg ah ag e v a):jo PG i (.cons (.kg C g bg) ah) e b ag:=h
theorem zX (h:VE PG i D e b λv a=>FH i g C ar bD (bz.map λc=>c.bind λj=>(e[j]?).join) n v a):
 VE PG i (.comp bz g C D ar bD) e b n:=h
theorem tuple_list (c:b d=some (.list j)) (h:n (.tup j) b):eE PG (a+1) (.bi 5) [.ref d] b n:=jI (.mk (.mk c h))
noncomputable def Kx (K:MM->AS->Prop) (T:Fl->MM->AS->Prop):Fl->MM->AS->Prop:=λfl m st=>match fl with | .next=>K m st |fl=>T fl m st
theorem yB {s:CS} (J:MM->AS->Prop) (h:∀K:MM->AS->Prop,(∀e b,J e b->K e b)->VS PG i s e b (Kx K ag)) (a:∀e b,J e b->jo PG i ah e b ag):jo PG i (.cons s ah) e b ag:=h _ a
theorem yC (h:VT PG i g (VE PG i g) e b λt b=>if t then jo PG i ah e b ag else jo PG i bg e b ag):VS PG i (.iff g ah bg) e b ag:=h
theorem Uc {W:MM->AS->(AV->AS->Prop)->Prop} (a:Tv i e b g aw) (d:aw=true->VT PG i D (VE PG i D) e b bK) (c:aw=false->bK false b):VT PG i (.and g D) W e b bK:=a _ (by
 clear a;induction aw with
 |true=>exact d rfl
 |false=>exact c rfl)
theorem RJ (h:VE PG i g e b λv b=>VE PG i D e b λw b=>pW b (λr=>∃t,nN b (.bool r) t/\bK t b) bI v w):VT PG i (.cmp g bI D) (VE PG i (.cmp g bI D)) e b bK:=h
theorem M8 (c:Ev i e b g l) (a:VE PG i D e b λw b=>n (.tup [l,w]) b):VE PG i (.tup (.cons g (.cons D .nil))) e b n:=c _ a
theorem A5:∀{l:List Nat},a∈l->a<=l.sum
 |y::l,h=>by
  rw [jC]
  exact (eK.mp h).elim (λh=>h▸eh _ _) λh=>a_ (A5 h) (df _ _)
theorem vQ (hp:xH b d o I) (R:I+100<100000) (hQ:∀p E r,FN b r d->xH r d o (I+36)->ML ie b r p E->vm (strip E) 5->n (.ref p) r):eE PG (a+7) (.fn 73) [.ref d] b n:=by
 have Q:∀c,b c=none->c≠d:=λc W q=>by
  obtain ⟨D,l,cs,h⟩:=hp
  rw [q,h.obj] at W;contradiction
 refine gP [some (.ref d),none,none,none,none] (df 2 _) rfl rfl ?_
 refine zj λB lI N=>g9 (l:=tI []) (g6 gQ) (A4 (jJ (g7 d3 (iL (a5 rfl) d3) (oZ (ak:=6) (hp.keep N.le) (c_ (eh I 100) R) (by decide) (by decide) λD lG hk kY kO=>tA (a:=a+5) (eA (gG hk (by decide))) ?_))))
 have lh:=Q B N.fr
 refine iG .pU (eQ D) (λD=>.int (D:Nat)) (λn=>p4) (λp m r=>FN b r d/\xH r d o (I+1+7*p.length)/\(∃E,ML ie b r B E/\vm (strip E) p.length)/\∃(C:g_) (w3 w4:Option AV),DY C/\C.length<=4/\m=[some (.ref d),some (.ref B),some (tI C),w3,w4])
  ⟨(λf z i e=>(kO f i).trans (N.le _ _ e)),kY,⟨[],⟨(kO _ lh).trans N.at_,N.fr,(by intros;contradiction),eI⟩,⟨eI,(by (repeat intro _);contradiction),(by intros;contradiction),eJ _,(by intros;contradiction)⟩⟩,[],_,_,(by (repeat intro _);contradiction),(fy _),rfl⟩ (λ_ _ _ _=>trivial) ?_ ?_
 .intro p y r' m kD e lu K S;refine Ag m lu λkq Z F C w3 w4 M kV=>?_;refine eS F λE hE A=>?_
  have U:p.length<5:=by
   have:=congrArg fj e
   rw [ff,bh,e_] at this
   exact ei (UM this) (eX hk)
  refine ej _ rfl (je (jJ (zX (jJ (wq d3 (g7 d3 (iL (a5 rfl) d3) (oZ (ak:=4) Z (by exact V9 (o:=0) R U (by decide)) (by decide) (by decide) λq lJ H lq kB=>.int rfl (tA (a:=a+5) (d:=1+q) (by exact a_ (d7 (eA H) 1) (by decide)) ?_))))))))
  refine zk lq (by exact V' R U H) (λx=>(ej _ rfl (λr n N' kX kU ly=>wq d3 (g7 d3 (iL (a5 rfl) d3) (oZ (ak:=5) kX kU (by decide) (by decide) λp s kZ f c=>.int rfl (ly p s kZ f c)))))) λu lF kN c X ku kT kF kl=>tuple_list kl.at_ ?_
  have kx:u≠[]:=λq=>by rw [q,qJ] at X;exact absurd (X.trans (eY _ _)) (tV _).symm
  have kJ:FN b kN d:=((kq.same kB).same kF).le kl.le
  have kC:ML ie b kN B E:=((hE.same λf i=>kB f (Q f i)).same λf i=>kF f (Q f i)).le kl.le
  have kK:=kT.keep kl.le
  refine yB (λm r=>∃(l:g_) (y:AV),m=[some (.ref d),some (.ref B),some (tI C),some y,some (tI l)]/\l≠[]/\l.length<=4/\DY l/\FN b r d/\xH r d o (I+1+7*p.length+6)/\ML ie b r B E) (λK S=>yC (Uc (f' (MX (bS:=[]) (a5 rfl) (g6 gQ))) (λhw=>?_) λ_=>S _ _ ⟨u,_,rfl,kx,(by exact n1 X (Vf H)),ku,kJ,(kK.mono (by exact W0 H)),kC⟩)) ?_
  .refine RJ (g7 d3 (iL (a5 rfl) d3) (oZ (ak:=3) kK (by exact V' R U H) (by decide) (by decide) λt T ht Y ky=>eq_int rfl _ (ej _ (.bool _) ?_)))
   have h7:FN b T d/\xH T d o (I+1+7*p.length+6)/\ML ie b T B E:=iz (kJ.same ky) (Y.mono (by exact W3 H)) (kC.same λf i=>ky f (Q f i))
   induction decide (((t:Nat):Int)=0) using j5 with
   |false=>exact S _ _ (qV u _ rfl kx (by exact n1 X (Vf H)) ku h7)
   |true=>
    refine g9 (l:=tI (C.take 3++u.take 1)) (λn hQ=>AN (rd (a:=3) (a5 rfl) d3) (rd (a:=1) (a5 rfl) d3) (by simp only [bb,fS];unfold fF;exact a_ (fP (g8 _ _) (g8 _ _)) (by decide)) _ (by rw [<-b_];exact hQ)) (S _ _ (qV (C.take 3++u.take 1) _ rfl (λq=>?_) ?_ (λg O=>(eF.mp O).elim (λh=>M g (qq h)) λh=>ku g (qq h)) h7))
    .induction u using el with
     |nil=>exact kx rfl
     |cons g u=>simp at q
    .simp only [bh,fS];exact fP (g8 _ _) (g8 _ _)
  .intro m T kQ;refine Ah kQ λl y F lD kH kn kI Y km=>?_;subst F
   refine qW (gg lD) λg l F=>?_;subst F
   have lz:=kn g (.head _)
   have lB:∀e∈E,e.2.2.length<fF:=λe he=>c_ (a_ (A5 (ck.mpr (ej (e.1,e.2.2) (ck.mpr ⟨e,he,rfl⟩) rfl))) A.KX) (by unfold fF;exact gG U (by decide))
   have lr:E.length<fF:=by
    have:=A.keys.length_le_of_subset (l₂:=[1,2,3,4,5]) λg O=>by
     have:=A.gl g O
     simp only [eK,eg,or_false];exact Dm this
    unfold strip at this
    rw [bb,bb] at this
    exact c_ this (by unfold fF;decide)
   have lg:∀c,T c=none->b c=none:=λc W=>by
    induction h:b c using d_ with
    |none=>rfl
    |some z=>
     by_cases kG:c=d
     .obtain ⟨D,l,cs,J⟩:=Y
      rw [kG,J.obj] at W;contradiction
     .rw [kI c z kG h] at W;contradiction
   refine g9 (a5 rfl) (I1 (P:=λ(x:Row) s=>x.1=l/\10<=x.2/\FN b s d/\xH s d o (I+1+7*p.length+7)) km lg lr lB (a5 rfl) (pq (a:=0) (a5 rfl) d3 rfl) (λkz G n L=>?_) λx E' kz lH L G lx kP=>S _ _ ⟨(λf z i e=>(G f z e).trans (L.2.2.1 f z i e)),?_,⟨E',lx,?_⟩,(g::l),_,_,kn,kH,rfl⟩)
   .have lA:∀f z,b f=some z->f≠B:=λf z e q=>by rw [q,N.fr] at e;contradiction
    have lj:xH kz d o (I+1+7*p.length+6):=by
     obtain ⟨D,l,cs,J,V,h3,h4,M⟩:=Y
     exact ⟨D,l,cs,G _ _ (λq=>by rw [q,km.dict] at J;(injection J;contradiction)) J,G _ _ (λq=>by rw [q,km.dict] at V;(injection V;contradiction)) V,h3,h4,M⟩
    refine M8 (AX (a:=1) (av:=g::l) (a5 rfl) d3) (wq d3 (g7 d3 (iL (a5 rfl) d3) (oZ (ak:=3) lj (by exact V9 (o:=6) R U (by decide)) (by decide) (by decide) λt lE ht kW kM=>.int rfl (L (l,10+(t:Int)) lE (λf i=>kM f (Q f i)) (ur rfl (by exact Int.le.intro t rfl) ?_ kW)))))
    exact λf z i e=>(kM f i).trans (G f z (lA f z e) (kI f z i e))
   .obtain ⟨k1,v1,Vg,J,V,h3,h4,M⟩:=L.2.2.2
    obtain ⟨k0,v0,lK,g1,g2,_⟩:=hp
    refine ⟨k1,v1,Vg,(G d _ g1).trans J,(G o _ g2).trans V,h3,h4,?_⟩
    rw [bh];exact M
   .rw [kP,bh]
    exact A.add lz ⟨by rw [L.1];exact λg O=>kn g (.tail _ O),by rw [L.1];exact gZ kH,L.2.1⟩
 .intro m kD lC;refine Ag m lC λkq Z F C w3 w4 M kV=>?_;refine eS F λE hE A=>?_
  rw [ff] at Z A
  exact iM (a5 rfl) (ej _ (ed _) (hQ B E kD kq (Z.mono (by exact W4 hk)) hE ⟨A.keys,A.gl,A.rows,a_ A.KX (eX hk),A.ne⟩))
noncomputable abbrev Ent:=List (Int×Nat×List Row)
structure kj (st:AS) (d:Nat) (E:Ent):Prop where
 dict:st d=some (.dict (KW E))
 ls:∀e∈E,st e.2.1=some (.list (e.2.2.map ie))
variable {aK:Ent}
theorem kj.le (h:kj b a aK) (c:eD b q):kj q a aK:=⟨c _ _ h.dict,λe d=>c _ _ (h.ls e d)⟩
theorem ML.tab (h:ML ie b q a aK):kj q a aK:=⟨h.dict,λe c=>(h.ls e c).1⟩
noncomputable def jP (g:Int) (r:Row):Row:=(g::r.1,r.2)
noncomputable def j2 (T:Table):List Row:=T.flatMap λp=>(live p.2).map (jP p.1)
theorem rh (T:Table):(j2 T).length<=(T.map λp=>p.2.length).sum:=by
 induction T with
 |nil=>exact eJ _
 |cons p T a=>
  show (_++j2 T).length<=_
  rw [bh,bb,eG,jC]
  exact fP (xE _) a
theorem M9 (h:kj b a aK) (c:bH (.dict a ((KW aK).map (·.1))) (aK.map λe=>AV.int e.1)):oi b bH (.ref a):=vj h.dict (xG aK) (by
 have:(KW aK).map (·.1)=aK.map λe=>AV.int e.1:=by unfold KW;rw [et];rfl
 rw [this] at c⊢;exact c)
theorem yD {c:Int×Nat×List Row} (h:kj b a aK) (j:c∈aK) (f:Ev i e b g (.ref a)) (d:Ev i e b D (.int c.1)):Ev i e b (.sub g D) (.ref c.2.1):=sa f h.dict d (.inl ⟨⟨_,rfl⟩,xG aK⟩) (ck.mpr ⟨c,j,rfl⟩)
theorem vm.FT (h:vm aU a) {p:Int×List Row} (b:p∈aU):p.2.length<=a:=a_ (A5 (ck.mpr (ej p b rfl))) h.KX
theorem mid {r:List h} (a:dq=dT++dp::r):dp∈dq:=by rw [a];exact fT _ (.head _)
theorem rC:∀{k:Nat},k<=5->k<fF:=λh=>c_ h (by unfold fF;decide)
theorem A6 (h:kj b d aK) (H:vm (strip aK) 5) (B:a7.Perm (j2 (strip aK))) (Y:a7.Pairwise λkl kB=>kl.1<kB.1):Cl (eE PG (a+4)) (.fn 74) [.ref d] b (gO b (a7.map ie)):=by
 have kq:a7.length<=5:=by rw [B.length_eq];exact a_ (rh _) H.KX
 refine jO [some (.ref d),none,none,none,none,none] (df _ _) rfl rfl λk L R hR=>?_
 (injection L with L;subst L)
 refine sF gQ λc kD G=>?_
 refine oS (a5 rfl) (iG (.dict d _) aK (λe=>.int e.1) (λQ=>M9 (h.le G.le)) (λD m j=>eD b j/\i0 b j c (.list ((j2 (strip D)).map ie))/\∃J C n l,m=[some (.ref d),some (.ref c),J,C,n,l]) (uu G.le (G.own (ed _)) _ _ _ _ rfl) (λD m j z=>(ej _ (z.1 _ _ h.dict) rfl)) ?_ ?_)
 .intro D e r' m W O kx K hK;refine wX m kx λp y J C n l=>?_
  have w:=mid O
  have km:(e.1,e.2.2)∈strip aK:=ck.mpr (ej e w rfl)
  have T:∀f:List Row,(∃I,e.2.2=f++I)->((j2 (strip D))++(live f).map (jP e.1)).length<=5:=λf zf=>j_ zf λI h2=>by
   refine a_ ?_ H.KX
   rw [O]
   unfold strip
   rw [b_,b_,qI,eG,eG,jC,bh,bb,h2,bh]
   exact fP (rh _) (a_ (xE _) (a_ (eh _ _) (eh _ _)))
  refine ej _ rfl (sF gQ λu X t=>?_)
  have N:=h.le (b4 p t.le)
  have S:c≠u:=t.ne y.at_
  refine oS (yD N w (a5 rfl) (a5 rfl)) (iG (.list e.2.1 _) e.2.2 ie (λQ=>gI (N.ls e w)) (λf m j=>eD b j/\i0 b j u (.list ((live f).map λr=>tI r.1))/\i0 b j c (.list ((j2 (strip D)++(live f).map (jP e.1)).map ie))/\∃n l,m=[some (.ref d),some (.ref c),some (.int e.1),some (.ref u),n,l])
   (wQ (b4 p t.le) (t.own p) (by rw [show live []=[] from rfl,pD,eR];exact y.le t.le) _ _ rfl) (λf m j z=>z.1 _ _ (h.ls e w)) ?_ ?_)
  .intro f r I m ku F V K2 P;refine zR m V λx s o n l=>?_
   refine ej [some (.ref d),some (.ref c),some (.int e.1),some (.ref u),some (tI r.1),some (.int r.2)] rfl ?_
   have g:(live f).length<fF:=rC (a_ (by rw [bh,bb];exact df _ _) (T f (oK _ F)))
   refine pG (yx (rN (M0 (e9:=λq:Row=>jy r.1 q.1) (tx _ (eA g) (a5 rfl) s.at_ λq _ M g=>(ej _ rfl (jG (AY (rd (a5 rfl) (px (a5 rfl))) (a5 rfl)) rfl))) λM _=>rfl))) λM g=>⟨λi=>?_,λi=>?_⟩
   .refine qC (a5 rfl) (g _ _ s.at_) (by rw [bb];assumption) (a5 rfl) λkF E=>?_
    have ky:=(o.le g).keep E S
    refine qC (a5 rfl) ky.at_ (by rw [bb];exact rC (T f (oK _ F))) (g6 (iL (l:=tI (e.1::r.1)) (λQ U=>AN (g6 (iJ (a5 rfl))) (a5 rfl) ?_ _ U) (a5 rfl))) λkC A=>s_end (P _ _ (wQ (A.le (E.le (b4 x g) s.fr) o.fr) ⟨?_,s.fr⟩ ⟨?_,o.fr⟩ _ _ rfl))
    .have:=(H.rows _ km r (mid F)).len
     rw [bb];unfold fF
     exact a_ (d7 this 1) (by decide)
    .rw [A.ne _ S.symm,E.at_,oY,if_neg,b_]
     .rfl
     .rw [fL] at i
      exact λq=>gM (i.symm.trans q)
    .rw [A.at_,oY,if_neg]
     .simp only [b_,eC];rfl
     .rw [fL] at i
      exact λq=>gM (i.symm.trans q)
   .rw [jM] at i
    refine P _ _ (wQ (b4 x g) ?_ ?_ _ _ rfl)
    .rw [oY,if_pos i];exact s.le g
    .rw [oY,if_pos i];exact o.le g
  .intro m ku kz;refine zR m kz λx s o n l=>?_
   refine hK _ _ (uu x ?_ _ _ _ _ rfl)
   have:j2 (strip (D++[e]))=j2 (strip D)++(live e.2.2).map (jP e.1):=by
    unfold j2 strip
    rw [b_,kA,eG,pD,iT,zN,eR]
   rw [this];exact o
 .intro m W Z;refine wX m Z λp y J C n l=>?_
  exact sg (gy d3 (iJ (a5 rfl)) (A0 (f9 y.at_) (by rw [<-B.length_eq];exact kq) B Y)) λkG X kn hv=>hR _ _ _ (b4 p kn) (hv.mono p)
noncomputable def Au.grow (A:Au) (k:Nat) (g:Int):Au:=match A.step k g with
 |some _=>A
 |none=>⟨A.steps.set k (A.at k++[(g,A.steps.length)])++[[]],A.ends++[-1]⟩
open Mine.Au renaming grow->xZ
noncomputable def jH (A:Au) (k:Nat):g_->Au×Nat
 |[]=>(A,k)
 |g::w=>jH (A.grow k g) (((A.grow k g).step k g).getD 0) w
noncomputable def Au.add (A:Au) (w:g_) (l:Int):Au:=⟨(jH A 0 w).1.steps,(jH A 0 w).1.ends.set (jH A 0 w).2 l⟩
theorem CN (A:Au) (k:Nat):∀(u w:g_),jH A k (u++w)=jH (jH A k u).1 (jH A k u).2 w
 |[],_=>rfl
 |g::u,w=>CN _ _ u w
theorem yE (h:¬a<r.steps.length):r.at a=[]:=by
 unfold Au.at;rw [ec,i_ (iY.mp h)];rfl
theorem mR (d:a<r.steps.length) (h:r.step a p=none) (i:Nat):(r.grow a p).at i=if i=a then r.at a++[(p,r.steps.length)] else r.at i:=by
 unfold xZ;rw [h]
 unfold Au.at
 rw [ec]
 clear h;by_cases b:i=a
 .subst b
  rw [if_pos rfl,eN (by rwa [gJ]),GI d];rfl
 .rw [if_neg b]
  by_cases c:i<r.steps.length
  .rw [eN (by rwa [gJ]),iH λq=>b q.symm]
   exact (ec ..).symm
  .rw [fk (by rw [gJ];exact iY.mp c),show r.steps.getD i []=[] from yE c]
   cases i - (r.steps.set a _).length<;>rfl
theorem A7 (h:aD.lookup p=none):(aD++[(p,a)]).lookup aB=if aB=p then some a else aD.lookup aB:=by
 induction aD with
 |nil=>
  show ([(p,a)]:List (Int×Nat)).lookup aB=_
  rw [eM]
  by_cases b:aB=p
  .rw [if_pos b,beq_iff_eq.mpr b]
  .rw [if_neg b,beq_false_of_ne b]
 |cons c aD e=>
  obtain ⟨y,v⟩:=c
  rw [eM] at h
  rw [iI,eM,eM]
  split at h
  .contradiction
  .rename_i d
   rw [e h]
   by_cases b:aB=p
   .rw [if_pos b,if_pos b,b,d]
   .rw [if_neg b,if_neg b]
theorem vo (b:a<r.steps.length):(r.grow a p).step a p=some ((r.step a p).getD r.steps.length):=by
 induction h:r.step a p with
 |some t=>unfold xZ;rw [h];exact h
 |none=>
  unfold U_
  rw [mR b h,if_pos rfl,A7 h,if_pos rfl];rfl
theorem p5:(r.grow a p).steps.length=if (r.step a p).isSome then r.steps.length else r.steps.length+1:=by
 unfold xZ
 induction r.step a p with
 |some t=>rfl
 |none=>show (_++[[]]).length=_;rw [bh,gJ];rfl
variable {di:Int×Nat}
theorem wu (h:di∈r.at a):a<r.steps.length/\r.at a∈r.steps:=by
 by_cases b:a<r.steps.length
 .exact ⟨b,fi (yv b)⟩
 .rw [yE b] at h;exact (eg h).elim
theorem QK (c:r.ends.length=r.steps.length) (d:0<r.steps.length) (e:∀k p,p∈r.at k->p.2<r.steps.length) (f:∀k,((r.at k).map (·.1)).Nodup):r.Ok where
 len:=c
 pos:=d
 to s b p g:=by
  obtain ⟨k,a⟩:=eZ.mp b
  have:=yv (ew.mp a).1
  rw [a] at this;clear c d f b a;(injection this with this;subst this)
  exact e k p g
 nd s b:=by
  obtain ⟨k,a⟩:=eZ.mp b
  have:=yv (ew.mp a).1
  rw [a] at this;clear c d e b a;(injection this with this;subst this)
  exact f k
theorem lookup_none (h:aD.lookup p=none):p∉aD.map (·.1):=λq=>by
 have:=DR h
 rw [show (dV aD).map (·.1)=(aD.map (·.1)).map AV.int by unfold dV;rw [et,et];rfl,qH] at this
 exact this q
theorem Au.Ok.rO (h:r.Ok) (k:Nat):((r.at k).map (·.1)).Nodup:=by
 by_cases a:k<r.steps.length
 .exact h.nd _ (fi (yv a))
 .rw [yE a];exact eI
theorem Au.Ok.M' (h:r.Ok) (b:di∈r.at a):di.2<r.steps.length:=h.to _ (wu b).2 di b
theorem Au.Ok.grow (h:r.Ok) (j:a<r.steps.length) (g:Int):(r.grow a g).Ok:=by
 induction d:r.step a g using d_ with
 |some t=>unfold xZ;rw [d];exact h
 |none=>
  have f:(r.grow a g).steps.length=r.steps.length+1:=by rw [p5,d];rfl
  refine QK ?_ (by rw [f];exact fB _) (λi p c=>?_) λi=>?_
  .rw [f];unfold xZ;rw [d];show (_++[_]).length=_;rw [bh,h.len];rfl
  .rw [f]
   rw [mR j d] at c
   split at c
   .rcases eF.mp c with c |c
    .exact jq (h.M' c)
    .rw [dt.mp c];exact fH _
   .exact jq (h.M' c)
  .rw [mR j d]
   split
   .rw [b_]
    exact eP.mpr ⟨h.rO a,eT.mpr ⟨eg,eI⟩,λm l b k q=>lookup_none d (by
     have e:b=g:=dt.mp k
     rw [<-e,<-q];exact l)⟩
   .exact h.rO i
noncomputable def Au.Small (A:Au):Prop:=∀i,(A.at i).length<A.steps.length
theorem Au.Small.grow (h:r.Small) (c:a<r.steps.length) (g:Int):(r.grow a g).Small:=by
 induction b:r.step a g using d_ with
 |some t=>unfold xZ;rw [b];exact h
 |none=>
  intro i
  rw [mR c b,p5,b]
  split
  .rw [bh];exact oy (h a)
  .exact jq (h i)
theorem M_:∀(w:g_) {A:Au} {k:Nat},A.Ok->k<A.steps.length->(jH A k w).1.Ok/\(jH A k w).2<(jH A k w).1.steps.length:=by
 intro d
 induction d with
 |nil=>
  intro A k h a
  exact ⟨h,a⟩
 |cons g w b=>
  intro A k h a
  refine b (h.grow a g) ?_
  rw [vo a,p5]
  show (A.step k g).getD A.steps.length<_
  induction c:A.step k g with
  |some t=>exact oa h c
  |none=>exact fH _
theorem Au.Ok.add (h:r.Ok) (w:g_) (l:Int):(r.add w l).Ok:=by
 refine iK (M_ w h h.pos) λa b=>?_
 exact ⟨by show (List.set _ _ _).length=_;rw [gJ,a.len];rfl,a.pos,a.to,a.nd⟩
structure Om (s0 st:AS) (a dx l e:Nat) (ds:List Nat) (A:Au):Prop where
 obj:st a=some (.inst 6 dx [(32,.ref l),(55,.ref e)])
 steps:st l=some (.list (ds.map .ref))
 ends:st e=some (.list (A.ends.map .int))
 len:ds.length=A.steps.length
 dict:∀i d,ds[i]? =some d->st d=some (.dict (dV (A.at i)))
 nd:ds.Nodup
 ne:l≠e
 fl:s0 l=none
 fe:s0 e=none
 fd:∀d∈ds,s0 d=none
inductive vE (s0 st:AS) (a:Nat) (A:Au):Prop where
 |mk (dx l e:Nat) (ds:List Nat) (h0:Om s0 st a dx l e ds A):vE s0 st a A
theorem HH (h:C.length=aP.length) (a:∀i d,C[i]? =some d->b d=some (.dict (dV (aP.getD i [])))):ke b C aP:=by
 induction C generalizing aP with
 |nil=>clear a;induction aP using el with
  |nil=>exact .nil
  |cons=>contradiction
 |cons d C c=>induction aP using el with
  |nil=>contradiction
  |cons s aP=>exact .cons (a 0 d rfl) (c (Nat.succ.inj h) λi f e=>a (i+1) f e)
theorem Om.au (h:Om b q a d o I C r):CJ q a d o I C r:=⟨h.obj,h.steps,h.ends,HH h.len h.dict⟩
theorem vE.au (h:vE b q a r):mY q a r:=let ⟨d,l,e,c,h⟩:=h;⟨d,l,e,c,h.au⟩
theorem vE.base (h:vE q ax a r) (c:eD b q):vE b ax a r:=let ⟨i,l,e,f,h⟩:=h;⟨i,l,e,f,h.obj,h.steps,h.ends,h.len,h.dict,h.nd,h.ne,jE c h.fl,jE c h.fe,λd g=>jE c (h.fd d g)⟩
theorem vE.with (h:vE b q a r) (o:eD b q) (c:eD q ax) (k:i0 q ax d ay):eD b (b.set d ay)/\eD (b.set d ay) ax/\vE (b.set d ay) ax a r:=by
 have p:b d=none:=jE o k.fr
 refine iz (mV p) (λx j e=>?_) ?_
 .clear h p;by_cases s:x=d
  .subst s;rw [gX] at e;rw [<-e];exact k.at_
  .rw [gw s] at e;exact c _ _ (o _ _ e)
 .obtain ⟨u,l,e,t,h⟩:=h
  have m:∀g j,q g=some j->b g=none->(b.set d ay) g=none:=λg j e w=>(gw λy=>by rw [y,k.fr] at e;contradiction).trans w
  exact ⟨u,l,e,t,c _ _ h.obj,c _ _ h.steps,c _ _ h.ends,h.len,λi f e=>c _ _ (h.dict i f e),h.nd,h.ne,m _ _ h.steps h.fl,m _ _ h.ends h.fe,λf n=>by
   obtain ⟨i,v⟩:=eZ.mp n
   exact m _ _ (h.dict i f v) (h.fd f n)⟩
theorem nQ:(aD.lookup p).isSome=true↔p∈aD.map (·.1):=by
 induction h:aD.lookup p with
 |none=>exact ⟨(by intros;contradiction),λq=>absurd q (lookup_none h)⟩
 |some t=>exact ⟨λ_=>by have:=fE (f:=(·.1)) (rL h);rw [show (dV aD).map (·.1)=(aD.map (·.1)).map AV.int by unfold dV;rw [et,et];rfl,qH] at this;exact this,λ_=>rfl⟩
theorem DZ:AV.int p∈(dV aD).map (·.1)↔p∈aD.map (·.1):=by
 rw [show (dV aD).map (·.1)=(aD.map (·.1)).map AV.int by unfold dV;rw [et,et];rfl,qH]
theorem jZ (h:l∉aC.map (·.1)):dictPut aC l af=aC++[(l,af)]:=if_neg h
theorem wx (n:Ev i e b aL af) (d:Ev i e b g (.ref a)) (j:b a=some (.dict aC)) (f:Ev i e b D l) (m:ta l aC) (k:aC.length<fF) (h:∀c,Upd b c a (.dict (dictPut aC l af))->jo PG i ah e c ag):
 jo PG i (.cons (.tZ g D aL) ah) e b ag:=n _ (d _ (f _ (.dict j m k (h _ pv))))
theorem RK (m:Ev i e b g (.ref a)) (l:b a=some (.list j)) (n:j.length<fF) (h:∀c k d,sf b k c (.dict [])->Upd k d a (.list (j++[.ref c]))->jo PG i ah e d ag):
 jo PG i (.cons (.ex (.fM g 0 (.cons (.dict .nil) .nil))) ah) e b ag:=m _ (.list l (.inl rfl) ⟨[],rfl,eI,λc p=>by
 have f:=fN (ay:=.dict []) p
 exact (ej _ (f.le _ _ l) (.app n (h c _ _ f pv)))⟩)
theorem RL (h:Ev i e b g (.int p)) (d:Ev i e b D (.ref a)) (f:b a=some (.dict (dV aD))):Tv i e b (.cmp g .Cf D) (!(aD.lookup p).isSome):=
 f' (fV h d λQ c=>.Cf (.dict f (.inl ⟨⟨_,rfl⟩,nP _⟩) _ (nQ.trans DZ.symm)) c)
theorem gz:dq[a]? =some dp->a<dq.length:=λb=>(ew.mp b).1
theorem yF (h:C.Nodup) (b:C[a]? =some o) (c:C[d]? =some o):a=d:=(iR (gz b) h).mp (b.trans c.symm)
theorem Na (hM:vE b q d r) (kq:eD b q) (hO:r.Ok) (hS:r.Small) (hl:r.steps.length+av.length<fF) (S:∀J,eD b J->vE b J d (r.add av p)->n .none J):eE PG (a+4) (.fn 44) [.ref d,tI av,.int p] q n:=by
 refine gP [some (.ref d),some (tI av),some (.int p),none,none] (df 2 _) rfl rfl (g9 d3 (oS (a5 rfl) ?_))
 refine iG .tup av AV.int (λn h=>.tup h) (λz m J=>eD b J/\vE b J d (jH r 0 z).1/\((jH r 0 z).1.Ok/\(jH r 0 z).1.Small/\(jH r 0 z).2<(jH r 0 z).1.steps.length/\(jH r 0 z).1.steps.length<=r.steps.length+z.length)/\∃w4,m=[some (.ref d),some (tI av),some (.int p),some (.int (jH r 0 z).2),w4])
  ⟨kq,hM,⟨hO,hS,hO.pos,eJ _⟩,_,rfl⟩ (λ_ _ _ _=>trivial) ?_ ?_
 .intro z s r' m kU hw kH K W;refine Di m kH λL f km w4=>?_;refine wV km λO Z D V=>?_
  rw [CN] at W
  generalize (jH r 0 z).1=w at*
  generalize (jH r 0 z).2=k at*
  have hd:z.length<av.length:=by rw [hw,bh,e_];exact gk (fB _)
  have Y:w.steps.length<fF:=c_ (a_ V (d7 (eA hd) _)) hl
  clear kH km;obtain ⟨dx,E,H,M,f⟩:=f
  refine eS (f.au.dict D) λN I G=>?_
  have kl:M[k]? =some N:=by
   rw [ee] at I
   refine eS (fW.mp I) λx hx e=>?_
   clear hM kq hO hS hl S hw L O Z V W D hd Y f I G;(injection e with e;subst e);exact hx
  refine ej _ rfl (yB (λm J=>eD b J/\vE b J d (w.grow k s)/\m=[some (.ref d),some (tI av),some (.int p),some (.int k),some (.int s)]) (λK' kn=>yC (RL (a5 rfl) (ft (eO (a5 rfl) f.obj rfl) f.steps (a5 rfl) I) G _ ?_)) ?_)
  .induction C:w.step k s with
   |some t=>
    rw [show (w.at k).lookup s=some t from C]
    exact kn _ _ (iz L (by unfold xZ;rw [C];exact ⟨_,_,_,_,f⟩) rfl)
   |none=>
    rw [show (w.at k).lookup s=none from C]
    have hg:AV.int s∉(dV (w.at k)).map (·.1):=λl=>lookup_none C (DZ.mp l)
    refine wx (af:=.int w.steps.length) (λn S=>jd (eO (a5 rfl) f.obj rfl) (f9 f.steps) _ (by rw [bb,f.len];exact S)) (ft (eO (a5 rfl) f.obj rfl) f.steps (a5 rfl) I) G (a5 rfl) (.inl ⟨(oK _ rfl),nP _⟩) ?_ λkD u2=>?_
    .unfold dV;rw [bb];exact gG (Z k) Y
    rw [jZ hg] at u2
    have ku:d≠N:=λl=>by have:=f.obj;rw [l,G] at this;(injection this;contradiction)
    have kz:E≠N:=λl=>by have:=f.steps;rw [l,G] at this;(injection this;contradiction)
    have ky:H≠N:=λl=>by have:=f.ends;rw [l,G] at this;(injection this;contradiction)
    have o2:=(u2.ne d ku).trans f.obj
    have l2:=(u2.ne E kz).trans f.steps
    have e2:=(u2.ne H ky).trans f.ends
    refine RK (eO (a5 rfl) o2 rfl) l2 (by rw [bb,f.len];exact Y) λc kF kW B Q=>?_
    have kx:d≠E:=λl=>by have:=B.le _ _ o2;rw [l,B.le _ _ l2] at this;(injection this;contradiction)
    have o4:=(Q.ne d kx).trans (B.le _ _ o2)
    have e4:=(Q.ne H f.ne.symm).trans (B.le _ _ e2)
    refine qC (eO (a5 rfl) o4 rfl) e4 (by rw [bb,O.len];exact Y) d3 λkJ P=>kn _ _ (iz ?_ ⟨dx,E,H,M++[c],?_⟩ rfl)
    .refine P.le (Q.le (b4 (u2.le L (f.fd N (fi kl))) B.le) f.fl) f.fe
    .have c3:∀F o,kF F=some o->F≠E->F≠H->kJ F=some o:=λF o e h1 h2=>(P.ne F h2).trans ((Q.ne F h1).trans e)
     have T:∀{F kN},kF F=some (.dict kN)->F≠E/\F≠H:=λe=>⟨λl=>(by rw [l,B.le _ _ l2] at e;(injection e;contradiction)),λl=>(by rw [l,B.le _ _ e2] at e;(injection e;contradiction))⟩
     have kC:w.steps.length=M.length:=f.len.symm
     refine ⟨(P.ne d λl=>by have:=o4;rw [l,e4] at this;(injection this;contradiction)).trans o4,(P.ne E f.ne).trans (by rw [Q.at_,b_];rfl),?_,?_,λi d' u=>?_,?_,f.ne,f.fl,f.fe,λd' kO=>(eF.mp kO).elim (f.fd d') λh=>?_⟩
     .rw [P.at_];unfold xZ;rw [C,b_];rfl
     .rw [p5,C,bh,f.len];rfl
     .rw [mR D C]
      rcases j' i M.length with X |X
      .rw [eN X] at u
       clear hM kq hO hS hl S hw L O Z V W D hd Y I G kn C hg ku kz ky o2 l2 e2 Q kx o4 e4 P kC X;by_cases kB:i=k
       .clear f;subst kB
        rw [kl] at u;obtain rfl:=d5 u
        have R:=B.le _ _ u2.at_
        rw [if_pos rfl,c3 _ _ R (T R).1 (T R).2]
        unfold dV;rw [b_];rfl
       .rw [if_neg kB]
        have R:=B.le _ _ ((u2.ne d' λl=>kB (yF f.nd u (l▸kl))).trans (f.dict i d' u))
        exact c3 _ _ R (T R).1 (T R).2
      .rw [fk X] at u
       have kT:d'=c:=by
        induction h:i -M.length using ji with
        |zero=>rw [h] at u;exact (d5 u).symm
        |succ j=>rw [h] at u;contradiction
       clear hM kq hO hS hl S hw L O Z V W hd Y f I G kl kn C hg u2 ku kz ky o2 l2 e2 Q kx o4 e4 P u;subst kT
       rw [if_neg λl=>iY.mpr X (by rw [l,<-kC];exact D),yE λl=>iY.mpr X (by rw [<-kC];exact l)]
       exact c3 _ _ B.at_ (T B.at_).1 (T B.at_).2
     .refine eP.mpr (iz f.nd (eT.mpr ⟨eg,eI⟩) (λx hx y hy l=>?_))
      refine j_ (eZ.mp hx) λi u=>?_
      rw [l,dt.mp hy] at u
      have e0:=f.dict i c u
      have:=B.fr
      by_cases kG:c=N
      .rw [kG,u2.at_] at this;contradiction
      .rw [u2.ne c kG,e0] at this;contradiction
     .rw [dt.mp h]
      exact jE (u2.le L (f.fd N (fi kl))) B.fr
  .intro m kD kK;refine S6 m kK λkQ U=>?_
   have C:=vo (r:=w) (p:=s) D
   obtain ⟨dx,E,H,M,U⟩:=U
   have kI:=O.grow D s
   have kP:k<(w.grow k s).steps.length:=by
    rw [p5];split
    .exact D
    .exact jq D
   refine eS (U.au.dict kP) λN I G=>?_
   have e1:jH w k [s]=(w.grow k s,(w.step k s).getD w.steps.length):=by
    show (w.grow k s,((w.grow k s).step k s).getD 0)=_
    rw [C];rfl
   rw [e1] at W
   refine g9 (sa (ft (eO (a5 rfl) U.obj rfl) U.steps (a5 rfl) I) G (a5 rfl) (.inl ⟨(oK _ rfl),nP _⟩) (rL C)) (W _ _ ⟨kQ,⟨_,_,_,_,U⟩,⟨kI,Z.grow D s,oa kI C,?_⟩,(some (.int s)),rfl⟩)
   rw [p5,bh]
   refine a_ ?_ (fh V)
   split
   .exact vZ _
   .exact eJ _
 .intro m kU kV;refine Di m kV λL km kM w4=>?_;obtain ⟨dx,E,H,M,f⟩:=km;refine wV kM λO Z D V=>?_
  refine A3 (a5 rfl) (eO (a5 rfl) f.obj rfl) f.ends (a5 rfl) (by rw [bb,O.len];exact D) λkD u2=>ej _ (ed _) (S _ (u2.le L f.fe) ⟨dx,E,H,M,(u2.ne d λl=>?_).trans f.obj,(u2.ne E f.ne).trans f.steps,?_,f.len,λi z u=>(u2.ne z λl=>?_).trans (f.dict i z u),f.nd,f.ne,f.fl,f.fe,f.fd⟩)
  .have:=f.obj;rw [l,f.ends] at this;(injection this;contradiction)
  .rw [u2.at_,<-GH];rfl
  .have:=f.dict i z u;rw [l,f.ends] at this;(injection this;contradiction)
noncomputable def A8:Au:=⟨[[]],[-1]⟩
noncomputable def jl (A:Au) (rs:List Row):Au:=rs.foldl (λA r=>A.add r.1 r.2) A
theorem HI (A:Au) (u w:List Row):jl A (u++w)=jl (jl A u) w:=iS ..
theorem HJ:A8.Ok where
 len:=rfl
 pos:=j9
 to s a p b:=by cases dt.mp a;exact (eg b).elim
 nd s a:=by cases dt.mp a;exact eI
theorem CO:A8.Small:=λi=>by rcases i with ⟨⟩<;>exact j9
theorem FU:∀(w:g_) {A:Au} {a:Nat},A.Ok->A.Small->a<A.steps.length->(jH A a w).1.Small/\(jH A a w).1.steps.length<=A.steps.length+w.length:=by
 intro i
 induction i with
 |nil=>
  intro A a h d c
  exact ⟨d,eJ _⟩
 |cons b w f=>
  intro A a h d c
  have e:=vo (p:=b) c
  have:=f (a:=((A.grow a b).step a b).getD 0) (h.grow c b) (d.grow c b) (by rw [e];exact oa (h.grow c b) e)
  refine ⟨this.1,a_ this.2 ?_⟩
  rw [p5,e_,eY w.length 1,<-fJ]
  refine gA ?_ _
  split
  .exact vZ _
  .exact eJ _
theorem CP:∀(a:List Row) {A:Au},A.Ok->A.Small->(∀r∈a,r.1.length<=4)->(jl A a).Ok/\(jl A a).Small/\(jl A a).steps.length<=A.steps.length+4*a.length:=by
 intro g
 induction g with
 |nil=>
  intro A h b _
  exact iz h b (eJ _)
 |cons r a e=>
  intro A h b c
  have d:=FU r.1 h b h.pos
  have:=e (h.add r.1 r.2) d.1 λq f=>c q (.tail _ f)
  refine iz this.1 this.2.1 (a_ this.2.2 ?_)
  rw [e_,SR,eY (4*_) 4,<-fJ]
  exact gA (a_ d.2 (d7 (c r (.head _)) _)) _
noncomputable def oo (T:Table) (k:Int):List Row:=(live ((T.lookup k).getD [])).map (jP k)
noncomputable def nx (T:Table):List Row:=(sortI (T.map (·.1))).flatMap (oo T)
theorem D0 (h:p∈aK.map (·.1)):∃e∈aK,e.1=p/\(strip aK).lookup p=some e.2.2:=by
 refine ya (yz h) λb a f a c=>?_;subst a;obtain ⟨r,l⟩:=a
 refine gr (p,r,l) (by simp) rfl ?_
 clear h
 induction b with
 |nil=>exact List.lookup_cons_self
 |cons e b d=>
  rw [eG,eK,not_or] at c
  show ((e.1,e.2.2)::strip (b++(p,r,l)::f)).lookup p=_
  rw [eM,beq_false_of_ne c.1]
  exact d c.2
theorem FV (h:VE PG i g e b λ_ b=>jo PG i ah e b ag):jo PG i (.cons (.ex g) ah) e b ag:=h
theorem iq (h:VE PG i D e b λv b=>VE PG i g e b λk b=>w_ b (λj c f d=>Nx i ah ag .next e (b.set j (.inst c f (iy d a v)))) k):jo PG i (.cons (.iA g a D) ah) e b ag:=h
theorem i8 (f:Ev i e b g (.ref d)) (j:b d=some (.inst o I aS)) (h:∀c,Upd b c d (.inst o I (iy aS a l))->jo PG i ah e c ag):
 VE PG i g e b (λk b=>w_ b (λd o I aS=>Nx i ah ag .next e (b.set d (.inst o I (iy aS a l)))) k):=IY f j (h _ pv)
theorem sh (d:IV i e b ar j) (h:∀c a,sf b a c (.list j)->n (.ref c) a):VE PG i (.lst ar) e b n:=d _ λc f=>h c _ (fN f)
theorem A9 (h:∀c a,sf b a c (.dict [])->n (.ref c) a):VE PG i (.dict .nil) e b n:=gr [] rfl eI (λc d=>h c _ (fN d))
theorem RM (h:VE PG i g e b λv b=>∀c d,sf b d c (.list [v])->n (.ref c) d) (f:∀n a:AV->AS->Prop,(∀v s,n v s->a v s)->VE PG i g e b n->VE PG i g e b a):VE PG i (.lst (.cons g .nil)) e b n:=f _ _ (λv s k c j=>k c _ (fN j)) h
theorem zY (g:PG.Dn[d]? =some bO) (h:∀c f e,sf b e c (.inst d f [])->eE PG a (.fn bO.init) (.ref c::j) e λv e=>v= .none/\n (.ref c) e):eE PG (a+1) (.cls d) j b n:=
 call_cls g λc f i k l=>h c f _ (fN i)
theorem FW (h:∀k t,eD b t->vE b t k A8->b k=none->n (.ref k) t):eE PG (a+4) (.cls 6) [] b n:=by
 refine zY rfl λk r J n1=>gP [some (.ref k)] (df 2 _) rfl rfl (iq (RM (A9 λd K g l H j=>?_) λn L h z=>(gr [] rfl eI (λG E=>?_))))
 .have u:=j.ne (g.le _ _ n1.at_)
  have v:=g.ne n1.at_
  refine i8 (o:=6) (I:=r) (aS:=[]) (a5 rfl) (j.le _ _ (g.le _ _ n1.at_)) λN m=>iq (sh (iJ d3) λe s5 f=>i8 (o:=6) (I:=r) (aS:=[(32,.ref l)]) (a5 rfl) (f.le _ _ m.at_) λM o=>(gr _ (ed _) rfl ?_))
  have A:=f.ne m.at_
  have w:=(m.ne l u.symm).trans j.at_
  have x:=m.le (b4 n1.le (b4 g.le j.le)) n1.fr
  refine h k _ (o.le (b4 x f.le) n1.fr) ⟨r,l,e,[d],o.at_,(o.ne l u.symm).trans (f.le _ _ w),(o.ne e A.symm).trans f.at_,rfl,λi C s=>?_,eT.mpr ⟨eg,eI⟩,f.ne w,jE (b4 n1.le g.le) j.fr,jE x f.fr,λC F=>?_⟩ n1.fr
  .induction i using ji with
   |zero=>(injection s with s;subst s);exact (o.ne d v.symm).trans (f.le _ _ ((m.ne d v.symm).trans (j.le _ _ g.at_)))
   |succ i=>contradiction
  .rw [dt.mp F];exact jE n1.le g.fr
 .refine gj z λD I B y=>?_
  clear n1 B;induction D using el with
  |nil=>exact h _ _ (y G E)
  |cons p q=>contradiction
theorem p6 (c:(aU.map (·.1)).Nodup):(nx aU).Perm (j2 aU):=by
 refine (WB _ (sortI_perm _)).trans (.of_eq ?_)
 have i:∀a:Table,(∀p∈a,aU.lookup p.1=some p.2)->(a.map (·.1)).flatMap (oo aU)=j2 a:=by
  intro a h
  induction a with
  |nil=>rfl
  |cons p a d=>
   show oo aU p.1++(a.map (·.1)).flatMap (oo aU)=_++j2 a
   rw [d λq b=>h q (.tail _ b)]
   unfold oo
   rw [h p (.head _)];rfl
 refine i aU λp g=>?_
 refine qW (nc g) λf a e=>?_
 rw [e] at c⊢
 rw [b_,eP] at c
 refine gT.mpr (nB f a rfl (λq b=>?_))
 rw [bne_iff_ne]
 exact λj=>c.2.2 _ (fE b) p.1 (.head _) j.symm
theorem D1 (h:vm aU a):∀r∈j2 aU,r.1.length<=4/\DY r.1/\10<=r.2/\r.1≠[]:=λr b=>by
 refine eS (ot.mp b) λp d b=>?_
 refine iQ r (ck.mp b) λq i=>?_
 have c:=h.rows p d q ((xD p.2 []).subset i)
 exact ur (fh c.len) (λg f=>(eK.mp f).elim (λe=>e▸h.gl _ (fE d)) (c.gl g)) c.HG (by (repeat intro _);contradiction)
theorem A' (h:kj b a aK) (Q:List AV->Prop) (c:Q ((aK.map (·.1)).map .int)):ph b Q (.ref a):=q7 h.dict (xG aK) _ (by rw [uQ];exact c)
theorem vm.RN (h:vm (strip aK) a):(aK.map (·.1)).length<=a:=by
 have:∀T:Table,(∀p∈T,0<p.2.length)->T.length<=(T.map λp=>p.2.length).sum:=by
  intro T h
  induction T with
  |nil=>exact eJ _
  |cons p T c=>
   rw [eG,jC,e_,eY]
   exact fP (h p (.head _)) (c λq d=>h q (.tail _ d))
 have b:=this _ h.ne
 unfold strip at b
 rw [bb] at b⊢
 exact a_ b h.KX
theorem D3 (W:b d=some (.inst 5 I [(54,.ref o)])) (h:kj b o aK) (w:vm (strip aK) 5) (hP:∀g i,eD b i->mY i g (jl A8 (nx (strip aK)))->n (.ref g) i):Cl (eE PG (a+6)) (.fn 47) [.ref d] b n:=by
 have B:∀u f,nx (strip aK)=u++f->u.length<=5/\∀r∈u,r.1.length<=4:=λu f e=>by
  have S:=p6 w.keys
  constructor
  .refine a_ (a_ (eh _ f.length) (gv ?_)) (a_ (rh (strip aK)) w.KX)
   rw [<-S.length_eq,e,bh]
  .exact λr hr=>(D1 w r (S.mem_iff.mp (by rw [e];exact fR _ hr))).1
 refine jO [some (.ref d),none,none,none,none] (df _ _) rfl rfl λM H R hR=>?_
 (injection H with H;subst H)
 refine je (g7 d3 gQ (FW (a:=a+1) λg s1 l M1 _=>?_))
 refine q_ (gy d3 (iJ (eO (a5 rfl) (l _ _ W) rfl)) (sI (a:=a+4) (A' (h.le l)) w.RN)) λf s2 l2 L=>?_
 refine jj f L λc T=>?_
 refine mW (M1.with l l2 T) λA b1 M2=>?_
 have kK:=gX b c (.list ((sortI (aK.map (·.1))).map .int))
 generalize u_ b c (.list ((sortI (aK.map (·.1))).map .int))=x at*
 have kz:∀u f,nx (strip aK)=u++f->(jl A8 u).Ok/\(jl A8 u).Small/\(jl A8 u).steps.length<=21:=λu f e=>by
  have:=CP u HJ CO (B u f e).2
  exact iz this.1 this.2.1 (a_ this.2.2 (d7 (gR 4 (B u f e).1) 1))
 have X:sortI (aK.map (·.1))=sortI ((strip aK).map (·.1)):=by rw [rf]
 refine iG (.list c _) (sortI (aK.map (·.1))) .int (λQ=>gI T.at_) (λD m i=>eD x i/\vE x i g (jl A8 (D.flatMap (oo (strip aK))))/\∃G j p,m=[some (.ref d),some (.ref g),G,j,p]) (va b1 M2 _ _ _ rfl) (λ_ _ _ z=>z.1 _ _ kK) ?_ ?_
 .intro D M r' m Z U kH K hK;refine vd m kH λt J G j p=>?_
  have l:=b4 A t
  refine gj (D0 (p:=M) (ip.mp (mid U))) λe E kx ky=>?_
  subst kx
  have O:oo (strip aK) e.1=(live e.2.2).map (jP e.1):=by unfold oo;rw [ky];rfl
  have km:nx (strip aK)=D.flatMap (oo (strip aK))++((live e.2.2).map (jP e.1)++r'.flatMap (oo (strip aK))):=by
   unfold nx
   rw [<-X,U,kA,iT,O]
  refine ej _ rfl (q_ (gy d3 (iJ (yD (h.le l) E (eO (a5 rfl) (l _ _ W) rfl) (a5 rfl))) (CL (a:=a+1) ((h.le l).ls e E) (eA (rC (w.FT (ck.mpr ⟨e,E,rfl⟩)))))) λf kN kG L=>?_)
  refine jj f L λc2 kl=>?_
  refine mW (J.with t kG kl) λP b3 M3=>?_
  have kq:=gX x c2 (.list ((live e.2.2).map ie))
  generalize u_ x c2 (.list ((live e.2.2).map ie))=Y at*
  refine iG (.list c2 _) (live e.2.2) ie (λQ=>gI kl.at_) (λs m i=>eD Y i/\vE Y i g (jl A8 (D.flatMap (oo (strip aK))++s.map (jP e.1)))/\∃j p,m=[some (.ref d),some (.ref g),some (.int e.1),j,p]) (qT b3 (by rw [pD,eR];exact M3) _ _ rfl) (λ_ _ _ z=>z.1 _ _ kq) ?_ ?_
  .intro s q r2 m ku N kn K2 kF;refine rY m kn λF y j p=>?_
   have C:=kz (D.flatMap (oo (strip aK))++s.map (jP e.1)) ((q::r2).map (jP e.1)++r'.flatMap (oo (strip aK))) (by rw [km,N,b_,eC,eC])
   have V:(jP e.1 q).1.length<=4:=(B (D.flatMap (oo (strip aK))++(live e.2.2).map (jP e.1)) _ (by rw [km,eC])).2 _ (fT _ (fE (mid N)))
   have kD:jl A8 (D.flatMap (oo (strip aK))++(s++[q]).map (jP e.1))=(jl A8 (D.flatMap (oo (strip aK))++s.map (jP e.1))).add (e.1::q.1) q.2:=by
    rw [b_,<-eC,HI];rfl
   obtain ⟨kQ,l3,e3,kO,kJ⟩:=id y
   refine ej [some (.ref d),some (.ref g),some (.int e.1),some (tI q.1),some (.int q.2)] rfl (FV (jr (a5 rfl) kJ.obj rfl rfl rfl (iL (l:=tI (e.1::q.1)) (λQ hQ=>AN (g6 (iJ (a5 rfl))) (a5 rfl) ?_ _ hQ) (a5 rfl)) (Na (a:=a+1) y F C.1 C.2.1 ?_ λkP kI kC=>kF _ _ ⟨kI,?_,_,_,rfl⟩)))
   .rw [bb];exact a_ (gv (eY 1 _)) (a_ V (by unfold fF;decide))
   .exact c_ (fP C.2.2 V) (by unfold fF;decide)
   .rw [kD];exact kC
  .intro m ku kM;refine rY m kM λF y j p=>?_
   refine hK _ _ (va (b4 P F) ?_ _ _ _ rfl)
   rw [kA,iT,zN,eR,O]
   exact y.base P
 .intro m Z kB;refine vd m kB λt J G j p=>?_
  refine iM (a5 rfl) (hR _ _ _ (b4 A t) (hP g Z (b4 A t) ?_))
  unfold nx
  rw [<-X];exact J.au
noncomputable def I3 (p:Int×List Row):AV:=.tup [.int p.1,.tup (p.2.map ie)]
noncomputable def Nb (K:List (Int×List Row)):AV:=.tup (K.map I3)
theorem Kh (C:b d=some (.inst 5 I [(54,.ref o)])) (h:kj b o aK) (t:vm (strip aK) 5) (S:Int->List Row) (B:∀e∈aK,(S e.1).Perm (live e.2.2)/\(S e.1).Pairwise λH K=>H.1<K.1) (E:∀A,eD b A->n (Nb (((sortI (aK.map (·.1))).map λf=>(f,S f)).filter λp=>!decide (p.2=[]))) A):Cl (eE PG (a+6)) (.fn 35) [.ref d] b n:=by
 refine jO [some (.ref d),none] (df _ _) rfl rfl λf i R J=>?_
 (injection i with i;subst i)
 have z:(sortI (aK.map (·.1))).length<=5:=by rw [(sortI_perm _).length_eq];exact t.RN
 refine yy (xC (λf=>I3 (f,S f)) (eA (rC z)) (gy d3 (iJ (eO (a5 rfl) C rfl)) (sI (a:=a+4) (A' h) t.RN)) λf i F g=>(ej _ rfl ?_)) λv F g r=>?_
 .refine Qn f (D0 (ip.mp i)) λe m M=>?_
  have w:=t.FT (ck.mpr (ej e m rfl))
  exact IZ (a5 rfl) (p3 (a:=a+4) (Kg (a:=a+4) (gy d3 (iJ (yD (h.le g) m (eO (a5 rfl) (g _ _ C) rfl) (a5 rfl))) (CL (a:=a+1) ((h.le g).ls e m) (eA (rC w))))
   (a_ (xE _) w) (B e m).1 (B e m).2) λ_ _=>rfl)
 .refine jj v r λc G=>?_
  refine sg (p3 (a:=a+4) (j:=(((sortI (aK.map (λe:Int×Nat×List Row=>e.1))).map λf=>(f,S f)).filter λp:Int×List Row=>!decide (p.2=[])).map I3) (qo (uP (λf=>!decide (S f=[])) (λf=>I3 (f,S f)) (eA (rC z)) (a5 rfl) G.at_ λf i s l=>(gr _ rfl (tv (pw (f' (fV (pq (a:=1) (a5 rfl) d3 rfl) (g6 gQ) λQ D=>.ne (.plain ?_ ?_ (decide (S f=[])) ?_) D)))) (λ_ L _=>jG (a5 rfl) rfl))) λv s l r=>?_) (n:=n) λs l=>E s (b4 g l)) λv s l r=>J _ _ _ (b4 g l) r
  .exact .tup _ _ λx u=>by
    refine iQ x (ck.mp u) λq _=>?_
    exact .tup _ _ λy j=>by
     cases j with
     |head=>exact yr 3 _
     |tail _ j=>
      cases j with
      |head=>exact .int _ _
      |tail _ j=>exact (eg j).elim
  .exact .tup _ _ λx u=>by exact (eg u).elim
  .rw [decide_eq_true_iff]
   exact ⟨λe=>by rw [e];rfl,λe=>jt.mp (AV.tup.inj e)⟩
  .rw [uk,et];exact r
noncomputable def gH (R:List Row) (u:g_):List Row:=(R.filter λr=>jy r.1 u).map λr=>(r.1.drop u.length,r.2)
noncomputable def after (R:List Row) (g:Int):List Row:=gH R [g]
noncomputable def sJ (R:List Row):Int:=((R.find? λr=>r.1.isEmpty).map (·.2)).getD (-1)
theorem gL:jy av bS=true↔bS<+:av:=by
 unfold jy
 rw [decide_eq_true_iff]
 exact ⟨λh=>h▸List.take_prefix _ _,λh=>(List.prefix_iff_eq_take.mp h).symm⟩
theorem mS:bj∈gH a7 av↔(av++bj.1,bj.2)∈a7:=by
 unfold gH
 rw [ck]
 constructor
 .intro e;refine iQ bj e λq c=>?_
  refine iK (gB.mp c) λb d=>?_
  refine j_ (gL.mp d) λt a=>?_
  rw [<-a,iU,a];exact b
 .intro h
  exact ej _ (gB.mpr ⟨h,gL.mpr (xU _ _)⟩) (by rw [iU])
theorem jU:bj∈after a7 p↔(p::bj.1,bj.2)∈a7:=mS
theorem tB (R:List Row):gH R []=R:=by
 unfold gH
 rw [jv.mpr λr _=>gL.mpr (uj)]
 exact List.map_id' R
theorem Nc {v:g_}:jy av (bS++v)=(jy av bS&&jy (av.drop bS.length) v):=by
 rw [BE,eV,gL,gL,gL]
 constructor
 .intro a;refine WJ av a λt=>?_
  rw [eC]
  exact ⟨xU _ _,by rw [iU];exact xU _ _⟩
 .intro b;obtain ⟨⟨t,rfl⟩,h⟩:=b
  rw [iU] at h
  exact (List.prefix_append_right_inj _).mpr h
theorem tC (R:List Row) (u v:g_):gH (gH R u) v=gH R (u++v):=by
 unfold gH
 rw [uk,et,List.filter_filter]
 have:(λr:Row=>((λr:Row=>jy r.1 v)∘λr:Row=>(r.1.drop u.length,r.2)) r&&jy r.1 u)=λr=>jy r.1 (u++v):=by
  funext r;rw [Nc,Bool.and_comm];rfl
 rw [this]
 refine fm λr _=>?_
 show ((r.1.drop u.length).drop v.length,r.2)=_
 rw [ig,bh]
theorem A_ (x:Int) (w:g_) (l:Int) (R:List Row) (g:Int):after ((x::w,l)::R) g=if x=g then (w,l)::after R g else after R g:=by
 unfold after gH
 by_cases h:x=g
 .have a:jy (x::w) [g]=true:=gL.mpr (by rw [h];exact (oK w rfl))
  rw [if_pos h,k8 (p:=λr:Row=>jy r.1 [g]) a];rfl
 .rw [if_neg h,k9 (p:=λr:Row=>jy r.1 [g]) λq=>h (by refine j_ (gL.mp q) λt b=>?_;exact (fq b).1.symm)]
theorem Ki (l:Int) (R:List Row) (g:Int):after (([],l)::R) g=after R g:=by
 unfold after gH
 rw [k9 (p:=λr:Row=>jy r.1 [g]) λq=>by obtain ⟨t,a⟩:=gL.mp q;contradiction]
theorem Ba {f g:h->List t}:∀{l:List h},(∀x∈l,f x=g x)->l.flatMap f=l.flatMap g:=by
 intro d
 induction d with
 |nil=>
  intro _
  exact rfl
 |cons x l c=>
  intro a
  rw [iT,iT,a x (.head _),c λy b=>a y (.tail _ b)]
theorem FX (m:a8.Nodup):∀{R:List Row},(∀g w l,(g::w,l)∈R->g∈a8)->R.Perm (R.filter (λr=>r.1.isEmpty)++a8.flatMap λg=>(after R g).map (jP g)):=by
 intro R
 induction R with
 |nil=>
  intro _
  have:(a8.flatMap λg=>(after [] g).map (jP g))=[]:=List.flatMap_eq_nil_iff.mpr λg _=>rfl
  rw [this];exact .refl _
 |cons r R f=>
 intro h
 obtain ⟨r,l⟩:=r
 have d:=f λg w l n=>h g w l (.tail _ n)
 clear f
 induction r using el with
 |nil=>
  have e:(a8.flatMap λg=>(after (([],l)::R) g).map (jP g))=a8.flatMap λg=>(after R g).map (jP g):=by simp only [Ki]
  rw [e]
  exact .cons _ d
 |cons x w=>
  refine qW (nc (h x w l (.head _))) λb c k=>?_;subst k
  have i:=eP.mp m
  have j:∀g,g≠x->after ((x::w,l)::R) g=after R g:=λg a=>by rw [A_,if_neg λq=>a q.symm]
  have s:(b.flatMap λg=>(after ((x::w,l)::R) g).map (jP g))=b.flatMap λg=>(after R g).map (jP g):=Ba λg a=>by rw [j g λq=>i.2.2 g a x (.head _) q]
  have t:(c.flatMap λg=>(after ((x::w,l)::R) g).map (jP g))=c.flatMap λg=>(after R g).map (jP g):=Ba λg a=>by rw [j g λq=>(eT.mp i.2.1).1 (q▸a)]
  rw [kA,iT] at d⊢
  rw [s,t,A_,if_pos rfl]
  refine (d.cons (x::w,l)).trans ?_
  have o:((x::w,l)::R).filter (λr=>r.1.isEmpty)=R.filter (λr=>r.1.isEmpty):=rfl
  have p:((w,l)::after R x).map (jP x)=(x::w,l)::(after R x).map (jP x):=rfl
  rw [o,p,iI]
  have:=@List.perm_middle Row (x::w,l) (R.filter (λr=>r.1.isEmpty)++b.flatMap λg=>(after R g).map (jP g)) ((after R x).map (jP x)++c.flatMap λg=>(after R g).map (jP g))
  rw [eC,eC] at this
  exact this.symm
noncomputable def wt (r:Row):Nat:=2*r.1.length+1
noncomputable def sz (R:List Row):Nat:=(R.map wt).sum
theorem RP (R S:List Row):sz (R++S)=sz R+sz S:=by unfold sz;rw [b_,qI]
theorem PL (g:Int) (R:List Row):sz (R.map (jP g))=sz R+2*R.length:=by
 induction R with
 |nil=>rfl
 |cons r R a=>
  have e:∀(r:Row) R,sz (r::R)=wt r+sz R:=λ_ _=>rfl
  rw [eG,e,a,e,e_]
  have:wt (jP g r)=wt r+2:=rfl
  exact WO this
theorem Nd (c:a8.Nodup) (h:∀g w l,(g::w,l)∈a7->g∈a8) (b:∀g∈a8,after a7 g≠[]):(a8.map λg=>1+sz (after a7 g)).sum<=sz a7:=by
 have a:sz a7=_:=(WA wt (FX c h)).sum_nat
 rw [b_,qI] at a
 rw [a]
 refine a_ ?_ (df _ _)
 clear a h c
 induction a8 with
 |nil=>exact fy _
 |cons g a8 d=>
  rw [eG,jC,iT,b_,qI]
  refine fP ?_ (d λg e=>b g (.tail _ e))
  have:=PL g (after a7 g)
  unfold sz at this⊢
  rw [this]
  have:0<(after a7 g).length:=oH.mpr (b g (.head _))
  exact WQ this
structure tS (A:Au) (L:Nat->List Row):Prop where
 ok:A.Ok
 fin:∀n,n<A.steps.length->A.end n=sJ (L n)
 step:∀n g t,n<A.steps.length->A.step n g=some t->L t=after (L n) g/\after (L n) g≠[]
 stop:∀n g,n<A.steps.length->A.step n g=none->after (L n) g=[]
 CQ:∀n,n<A.steps.length->(L n).Pairwise λa b=>a.1<b.1
 HG:∀n,n<A.steps.length->∀r∈L n,10<=r.2
theorem vp (b:(aD.map (·.1)).Nodup) (h:(p,a)∈aD):aD.lookup p=some a:=by
 refine qW (nc h) λg c d=>?_;clear h;subst d
 rw [b_,eP] at b
 refine gT.mpr (nB g c rfl (λq e=>?_))
 rw [bne_iff_ne]
 exact λf=>b.2.2 _ (fE e) p (.head _) f.symm
theorem zl (g:a7.Pairwise λa b=>a.1<b.1) (c:∀r∈a7,10<=r.2):a7.filter (λr=>r.1.isEmpty)=if sJ a7= -1 then [] else [([],sJ a7)]:=by
 induction a7 using el with
 |nil=>rfl
 |cons r a7=>
  obtain ⟨w,l⟩:=r
  have e:a7.filter (λr=>r.1.isEmpty)=[]:=jA.mpr λq d h=>by
   have f:=(jb.mp g).1 q d
   rw [qa.mp h] at f
   exact OC _ f
  clear g;induction w using el with
  |nil=>
   have:sJ (([],l)::a7)=l:=rfl
   have c:=c _ (.head _)
   rw [this,if_neg λq=>by rw [show l= -1 from q] at c;exact absurd c (by decide),k8 rfl,e]
  |cons x w=>
   have:sJ ((x::w,l)::a7)= -1:=by
    unfold sJ
    rw [GK gM,jL.mpr λq d h=>jA.mp e q d h];rfl
   rw [this,if_pos rfl,k9 gM,e]
variable {aq:Nat->List Row}
theorem tS.keys (G:tS r aq) (c:a<r.steps.length):(∀g w l,(g::w,l)∈aq a->g∈(r.at a).map (·.1))/\∀g∈(r.at a).map (·.1),after (aq a) g≠[]:=by
 refine ⟨λg w l h=>gh λq=>?_,λg d=>?_⟩
 .have:r.step a g=none:=by
   induction b:r.step a g using d_ with
   |none=>rfl
   |some t=>exact absurd (nQ.mp (by rw [show (r.at a).lookup g=some t from b];rfl)) q
  have:=G.stop a g c this
  rw [<-jU (bj:=(w,l)),this] at h
  exact (eg h).elim
 .have:=nQ.mpr d
  induction b:r.step a g using d_ with
  |none=>rw [show (r.at a).lookup g=none from b] at this;contradiction
  |some t=>exact (G.step a g t c b).2
noncomputable def Kj (u:g_) (r:Row):Row:=(u++r.1,r.2)
noncomputable def US (p:Nat×g_):AV:=.tup [.int p.1,tI p.2]
noncomputable def FY (L:Nat->List Row) (S:List (Nat×g_)):List Row:=S.flatMap λp=>(L p.1).map (Kj p.2)
noncomputable def HM (L:Nat->List Row) (S:List (Nat×g_)):Nat:=(S.map λp=>1+sz (L p.1)).sum
noncomputable def kids (A:Au) (n:Nat) (u:g_):List (Nat×g_):=(A.at n).map λp=>(p.2,u++[p.1])
theorem I4 (L:Nat->List Row) (S a:List (Nat×g_)):HM L (S++a)=HM L S+HM L a:=by unfold HM;rw [b_,qI]
theorem I5 (L:Nat->List Row):∀(S:List (Nat×g_)),S.length<=HM L S:=by
 intro b
 induction b with
 |nil=>
  exact eJ _
 |cons p S a=>
  show S.length+1<=1+sz (L p.1)+HM L S
  rw [eY]
  exact fP (eh _ _) (a)
theorem tS.Nf (G:tS r aq) (c:a<r.steps.length) (b:di∈r.at a):r.step a di.1=some di.2/\aq di.2=after (aq a) di.1:=by
 have h:=vp (G.ok.rO a) (p:=di.1) (a:=di.2) b
 exact ⟨h,(G.step a di.1 di.2 c h).1⟩
theorem Ng (G:tS r aq) (b:a<r.steps.length) (u:g_):((aq a).map (Kj u)).Perm ((if r.end a= -1 then [] else [(u,r.end a)])++FY aq (kids r a u)):=by
 refine iK (G.keys b) λe f=>?_
 refine ((FX (G.ok.rO a) e).map (Kj u)).trans (.of_eq ?_)
 rw [b_,zl (G.CQ a b) (G.HG a b),<-G.fin a b]
 congr 1
 .by_cases h:r.end a= -1
  .rw [if_pos h,if_pos h];rfl
  .rw [if_neg h,if_neg h];show [(u++[],_)]=_;rw [eR]
 .unfold FY kids
  rw [N_,N_,List.map_flatMap]
  refine Ba λp d=>?_
  rw [(G.Nf b d).2,et]
  refine fm λc _=>?_
  show (u++p.1::c.1,c.2)=(u++[p.1]++c.1,c.2)
  rw [eC];rfl
theorem Nh (G:tS r aq) (b:a<r.steps.length) (u:g_):HM aq (kids r a u)<=sz (aq a):=by
 refine iK (G.keys b) λd e=>?_
 refine a_ (gv ?_) (Nd (G.ok.rO a) d e)
 unfold HM kids
 rw [et,et]
 exact congrArg _ (fm λp c=>by show 1+sz (aq p.2)=1+sz (after (aq a) p.1);rw [(G.Nf b c).2])
theorem RQ (f:Ev i e b g (.ref a)) (l:b a=some (.list (j++[.tup aN]))) (k:jN C (.tup aN) e=some bP) (d:2<=C.length) (h:∀c,Upd b c a (.list j)->jo PG i ah bP c ag):jo PG i (.cons (.s_ C (.fM g 3 .nil)) ah) e b ag:=
 IW f l (.inr rfl) gQ (.pop List.getLast?_concat (pg _ _ rfl k d (h _ (by rw [List.dropLast_concat];exact pv))))
theorem si (h:mY b d r) (G:tS r aq) (X:(aq 0).length<=5) (E:sz (aq 0)<1000):Cl (eE PG (a+4)) (.fn 48) [.ref d] b (gO b ((aq 0).map ie)):=by
 refine jO [some (.ref d),none,none,none,none,none] (df _ _) rfl rfl λk hk R hR=>?_
 (injection hk with hk;subst hk)
 refine sF gQ λc1 s1 n1=>sF (j:=[US (0,[])]) (iJ (g6 (iL d3 (g6 gQ)))) λc2 s2 t=>?_
 have J:=t.ne n1.at_
 refine oN (HM aq [(0,[])]) (λN m g=>∃(S:List (Nat×g_)) (F:List Row) (w3 w4 j:Option AV),N=HM aq S/\N<1001/\(∀p∈S,p.1<r.steps.length/\p.2.length+N<1001)/\(F++FY aq S).Perm (aq 0)/\eD b g/\i0 b g c1 (.list (F.map ie))/\i0 b g c2 (.list (S.map US))/\m=[some (.ref d),some (.ref c1),some (.ref c2),w3,w4,j])
  ⟨[(0,[])],[],_,_,_,rfl,?_,?_,?_,(b4 n1.le t.le),((n1.own (ed _)).le t.le),(t.own n1.le),rfl⟩ ?_
 .show 1+sz (aq 0)+0<1001
  rw [eY 1];exact oy E
 .intro p i
  cases dt.mp i
  exact ⟨G.ok.pos,by show 0+(1+sz (aq 0)+0)<1001;rw [eY 1,iW];exact oy E⟩
 .show ((aq 0).map (Kj [])++[]).Perm _
  rw [eR,show Kj []=id from rfl,Ia]
 .intro N m g kF K z;refine Ai kF λS F w3 w4 j Z y B i M f c kz=>?_;subst Z;subst kz
  refine ej _ (pw (RF rfl c.at_)) (λkK o=>⟨λht=>?_,λht=>?_⟩)
  .rcases List.eq_nil_or_concat S with rfl |⟨S,⟨q,u⟩,rfl⟩
   .contradiction
   rw [List.concat_eq_append] at B y i z c
   have hF:F.length<=5:=by
    have:=i.length_eq
    rw [bh] at this
    exact a_ (eh _ _) (this▸X)
   obtain ⟨I,W⟩:q<r.steps.length/\u.length+HM aq (S++[(q,u)])<1001:=B (q,u) (by simp)
   have P:=Nh G I u
   have km:HM aq (S++[(q,u)])=HM aq S+(1+sz (aq q)):=I4 ..
   rw [km] at y W z
   have f:=f.le o
   have c:=c.le o
   rw [b_] at c
   refine RQ (a5 rfl) c.at_ (bP:=[some (.ref d),some (.ref c1),some (.ref c2),some (.int q),some (tI u),j]) rfl (eJ _) λku T=>?_
   have f:=f.keep T J
   have c:=T.own (s0:=b) c.fr
   have L:=T.le (b4 M o) c.fr
   obtain ⟨dx,l,e,ds,x⟩:=h
   have kl:Ev (eE PG (a+3)) [some (.ref d),some (.ref c1),some (.ref c2),some (.int q),some (tI u),j] ku (.sub (.attr (.var 0) 55) (.var 3)) (.int (r.end q)):=ft (eO (a5 rfl) (L _ _ x.obj) rfl) (L _ _ x.ends) (a5 rfl) (vk G.ok I)
   refine yB (λm g=>eD b g/\i0 b g c1 (.list ((F++if r.end q= -1 then [] else [(u,r.end q)]).map ie))/\i0 b g c2 (.list (S.map US))/\m=[some (.ref d),some (.ref c1),some (.ref c2),some (.int q),some (tI u),j]) (λK' U=>yC (f' (fV kl d3 (ne_int rfl)) _ ?_)) ?_
   .by_cases V:r.end q= -1
    .rw [if_pos V,eR] at U
     rw [decide_eq_true V]
     exact U _ _ (ur L f c rfl)
    .rw [if_neg V] at U
     rw [decide_eq_false V]
     refine qC (a5 rfl) f.at_ (by rw [bb];exact rC hF) (g6 (iL (a5 rfl) kl)) λkx u5=>U _ _ (ur (u5.le L f.fr) ?_ (c.keep u5 J.symm) rfl)
     rw [b_];exact u5.own f.fr
   .intro m kx ky;refine wV ky λC f c Z=>?_;subst Z
    refine eS (x.dict I) λkG hd kn=>?_
    have kq:∀s:List (Int×Nat),(dV s).map (·.1)=s.map λp=>AV.int p.1:=λs=>by unfold dV;rw [et];rfl
    refine oS (ft (eO (a5 rfl) (C _ _ x.obj) rfl) (C _ _ x.steps) (a5 rfl) hd) (iG (.dict kG _) (r.at q) (λp=>.int p.1) (λQ O=>vj (C _ _ kn) (nP _) (by rw [kq];exact O)) (λD m g=>eD b g/\i0 b g c1 (.list ((F++if r.end q= -1 then [] else [(u,r.end q)]).map ie))/\i0 b g c2 (.list ((S++D.map λp=>(p.2,u++[p.1])).map US))/\∃j,m=[some (.ref d),some (.ref c1),some (.ref c2),some (.int q),some (tI u),j])
     ⟨C,f,(by rw [pD,eR];exact c),_,rfl⟩ (λD m g h'=>(ej _ (h'.1 _ _ kn) (kq _))) ?_ ?_)
    .clear X E hR n1 t M o z y B i ht hF km T L kl C kq;intro D p r' m kH hD kJ K2 kD;refine Di m kJ λA f c j=>?_
     have kC:=G.Nf I (mid hD)
     refine ej _ rfl (qC (a5 rfl) c.at_ ?_ (g6 (iL (sa (ft (eO (a5 rfl) (A _ _ x.obj) rfl) (A _ _ x.steps) (a5 rfl) hd) (A _ _ kn) (a5 rfl) (.inl ⟨⟨_,rfl⟩,nP _⟩) (rL kC.1)) (l:=.int p.2) (af:=tI (u++[p.1])) λQ O=>AN (a5 rfl) (g6 (iJ (a5 rfl))) ?_ _ (by rw [show tI (u++[p.1])= .tup (u.map .int++[.int p.1]) by unfold tI;rw [b_];rfl] at O;exact O))) λkM u7=>kD _ _ ⟨u7.le A c.fr,f.keep u7 J,?_,_,rfl⟩)
     .have h1:=I5 aq S
      have h2:=I5 aq (kids r q u)
      unfold kids at h2
      rw [bb,hD,bh,e_] at h2
      rw [bb,bh,bb]
      unfold kids at P
      rw [hD] at P
      exact Vm h1 h2 P W
     .rw [bb];unfold fF
      exact a_ (nT (c_ (eh _ _) W)) (by decide)
     .have:=u7.own (s0:=b) c.fr
      rw [b_ (l₁:=D),<-eC,b_ (l₁:=S++_)]
      exact this
    .intro m kH kB;refine Di m kB λA f c j=>?_
     have Y:HM aq (S++kids r q u)<HM aq S+(1+sz (aq q)):=by rw [I4];exact ru (c_ P (Nat.lt_add_of_pos_left j9)) _
     refine z _ _ _ Y ⟨(S++kids r q u),_,_,_,_,rfl,(gG Y y),(λp H=>?_),?_,A,f,c,rfl⟩
     .rcases eF.mp H with H |H
      .have:=B p (fR _ H)
       exact ⟨this.1,gG (ru Y _) (by rw [<-km];exact this.2)⟩
      .refine iQ p (ck.mp H) λe he=>?_
       refine ⟨G.ok.M' he,?_⟩
       show (u++[e.1]).length+_<_
       rw [bh,fJ]
       refine c_ (d7 ?_ _) W
       rw [eY];exact Y
     .refine Ic ?_ i
      have e1:∀S S',FY aq (S++S')=FY aq S++FY aq S':=λS S'=>kA
      rw [e1,e1,eC]
      refine B' _ ?_
      have e2:FY aq [(q,u)]=(aq q).map (Kj u):=List.flatMap_singleton ..
      rw [e2]
      refine Ic ?_ (B' _ (Ng G I u).symm)
      rw [<-eC,<-eC]
      exact WC _ List.perm_append_comm
  .have kI:S=[]:=by
    clear h G X E hR n1 t J z y B i M f c o;induction S using el with
    |nil=>rfl
    |cons p S=>contradiction
   clear h E n1 t J c z y B ht;subst kI
   rw [show FY aq []=[] from rfl,eR] at i
   exact sg (gy d3 (iJ (a5 rfl)) (A0 (a:=a+2) (f9 (o _ _ f.at_)) (by rw [i.length_eq];exact X) i.symm (G.CQ 0 G.ok.pos))) λkN ku l4 hv=>hR _ _ _ (b4 M (b4 o l4)) (hv.mono (b4 M o))
section
section
variable {α γ:Type} (k:α->Int) (x:α->γ)
noncomputable def HN (V:List α):List (Int×List γ):=V.foldl (λT r=>xF T (k r) (x r)) []
theorem uR (V:List α) (r:α):HN k x (V++[r])=xF (HN k x V) (k r) (x r):=by unfold HN;rw [iS];rfl
variable {k x}
theorem snoc_ind {C:List α->Prop} (h0:C []) (h1:∀V r,C V->C (V++[r])) (V:List α):C V:=by
 rw [<-List.reverse_reverse V]
 induction V.reverse with
 |nil=>exact h0
 |cons r V ih=>rw [nJ];exact h1 _ _ ih
theorem I6 (V:List α):((HN k x V).map λp=>p.2.length).sum=V.length:=by
 induction V using snoc_ind with
 |h0=>rfl
 |h1 V r ih=>
 rw [uR,FQ,ih,bh];rfl
theorem Ni (V:List α):∀p∈HN k x V,0<p.2.length:=by
 induction V using snoc_ind with
 |h0=>exact (by intros;contradiction)
 |h1 V r ih=>
 intro p hp
 rw [uR] at hp
 rcases vn hp with hp |⟨_,l,e,_⟩
 .exact ih p hp
 .rw [e,bh];exact fB _
theorem sL (V:List α):((HN k x V).map (·.1)).Nodup/\∀g,g∈(HN k x V).map (·.1)↔∃r∈V,k r=g:=by
 induction V using snoc_ind with
 |h0=>exact ⟨eI,λg=>⟨(by intros;contradiction),λzf=>eS zf λr h _=>nomatch h⟩⟩
 |h1 V r ih=>
 rw [uR,yA]
 by_cases h:k r∈(HN k x V).map (·.1)
 .rw [if_pos h]
  refine ⟨ih.1,λg=>(ih.2 g).trans ⟨λzf=>eS zf λq h e=>(ej q (fR _ h) e),λζ=>?_⟩⟩
  refine eS ζ λq hq e=>?_
  rcases eF.mp hq with hq |hq
  .exact ej q hq e
  .rw [dt.mp hq] at e
   exact (ih.2 g).mp (e▸h)
 .rw [if_neg h]
  refine ⟨eP.mpr (iz ih.1 (eT.mpr ⟨eg,eI⟩) (λa ha b hb q=>h (by rw [<-dt.mp hb,<-q];exact ha))),λg=>?_⟩
  rw [eF,ih.2,dt]
  constructor
  .rintro (⟨q,hq,e⟩ |rfl)
   .exact ej q (fR _ hq) e
   .exact ej r (fT _ (.head _)) rfl
  .intro zr1;refine eS zr1 λq hq e=>?_
   rcases eF.mp hq with hq |hq
   .exact .inl (ej q hq e)
   .rw [dt.mp hq] at e;exact .inr e.symm
theorem D4 (V:List α):∀p∈HN k x V,p.2=(V.filter λr=>decide (k r=p.1)).map x:=by
 induction V using snoc_ind with
 |h0=>exact (by intros;contradiction)
 |h1 V r ih=>
 intro p hp
 rw [uR] at hp
 rw [xX,b_]
 have hn:=(sL (k:=k) (x:=x) V)
 by_cases h:k r=p.1
 .rw [k8 (p:=λr=>decide (k r=p.1)) (decide_eq_true h)]
  by_cases hm:k r∈(HN k x V).map (·.1)
  .refine ya (yz hm) λT1 l T2 e hnm=>?_
   rw [e,FO hnm] at hp
   rw [e,b_,eG,eP,eT] at hn
   have hl:=ih (k r,l) (by rw [e];simp)
   rcases eF.mp hp with hp |hp
   .exact absurd (h▸fE hp) hnm
   .rcases eK.mp hp with rfl |hp
    .exact congrArg (·++[x r]) hl
    .exact absurd (ck.mpr (ej p hp h.symm)) hn.1.2.1.1
  .rw [FP hm] at hp
   have e0:V.filter (λr=>decide (k r=p.1))=[]:=jA.mpr λq hq h2=>hm ((hn.2 _).mpr (ej q hq ((of_decide_eq_true h2).trans h.symm)))
   rw [e0]
   rcases eF.mp hp with hp |hp
   .exact absurd (h▸fE hp) hm
   .rw [dt.mp hp];rfl
 .rw [k9 (p:=λr=>decide (k r=p.1)) (by rw [decide_eq_false h];exact gM),List.filter_nil,pD,eR]
  rcases vn hp with hp |⟨e,_⟩
  .exact ih p hp
  .exact absurd e.symm h
end
theorem PM:∀{T:List (Int×List h)},(∀p∈T,0<p.2.length)->T.length<=(T.map λp=>p.2.length).sum:=by
 intro d
 induction d with
 |nil=>
  intro _
  exact eJ _
 |cons p T b=>
  intro a
  rw [eG,jC,e_,eY]
  exact fP (a p (.head _)) (b λq c=>a q (.tail _ c))
noncomputable def rP (r:Row):Int:=r.1.headD 0
noncomputable def xI (r:Row):Row:=(r.1.drop 1,r.2)
noncomputable def tabOf (V:List Row):Table:=HN rP xI V
noncomputable def zZ (V:List Row):List (Int×List g_):=HN (·.2) (·.1) V
noncomputable def Sr (a b:Row):Prop:=b.1.length<a.1.length\/(a.1.length=b.1.length/\a.1<b.1)
theorem HO {f:Row->Int} {x:Row->h} (d:strip dU=HN f x a7) (b:a7.length<fF):dU.length<fF/\∀e∈dU,e.2.2.length<fF:=by
 have a:=PM (T:=strip dU) (by rw [d];exact Ni a7)
 have c:((strip dU).map λp=>p.2.length).sum=a7.length:=by rw [d];exact I6 a7
 rw [c] at a
 refine ⟨c_ (by unfold strip at a;rw [bb] at a;exact a) b,λe g=>c_ (A5 (ck.mpr ⟨(e.1,e.2.2),ck.mpr ⟨e,g,rfl⟩,rfl⟩)) (c▸b)⟩
theorem Bb {f:Row->Int} {x:Row->h} {J:MM->Prop} (Z:bg= .cons (.ex (.fM (.fM g 2 (.cons D (.cons (.lst .nil) .nil))) 0 (.cons aL .nil))) .nil) (hl:a7.length<fF) (G:b o=none) (hd:q o=some (.dict [])) (A:b I=some (.list (a7.map ie))) (F:eD b q) (t:J e) (N:∀e,J e->∀k∈a7,∃j,jN [a,d] (ie k) e=some j/\J j/\∀q,Ev i j q g (.ref o)/\Ev i j q D (.int (f k))/\Ev i j q aL (dE (x k))) (Y:∀e E c,J e->ML dE b c o E->strip E=HN f x a7->eD b c->jo PG i ah e c ag):MW i [a,d] bg ah ag e (.ref I) q:=by
 subst Z
 refine iG (.list I _) a7 ie (λQ=>gI (F _ _ A)) (λg e c=>eD b c/\J e/\∃E,ML dE b c o E/\strip E=HN f x g) ⟨F,t,[],⟨hd,G,(by intros;contradiction),eI⟩,rfl⟩ (λ_ _ _ r=>r.1 _ _ A) ?_ λe c zf=>Dj zf λu v E l w=>Y e E c v l w u
 intro g k r' e H B O K W;refine Dj O λC t E S L=>?_
 refine gj (N e t k (mid B)) λj u v l=>?_
 refine iK (HO L (c_ (by rw [B,bh];exact eh _ _) hl)) λT V=>?_
 have kl:∀s:AS,eD b s->∀I,s I=none->b I=none:=λs r I=>jE r
 refine ej j u (I1 (P:=λz q=>z=x k/\eD b q) S (kl _ C) T V (l H).1 (l H).2.1 (λp w Q M=>(l p).2.2 _ (M (x k) p (λ_ _=>rfl) ⟨rfl,λbg m n=>w bg m (λz=>by rw [z,G] at n;contradiction) (C bg m n)⟩)) λz R p kn y U km X=>W _ _ ⟨λbg m n=>(U bg m n).trans (y.2 bg m n),v,R,km,?_⟩)
 rw [X,L,y.1,uR]
theorem Bc (h:mY b d r) (G:tS r aq) (A:(aq 0).length<=5) (F:sz (aq 0)<1000) (D:∀g E j,eD b j->ML tI b j g E->strip E=zZ (aq 0)->n (.ref g) j):Cl (eE PG (a+5)) (.fn 50) [.ref d] b n:=by
 refine jO [some (.ref d),none,none,none] (df _ _) rfl rfl λk u R L=>?_
 (injection u with u;subst u)
 refine zj λg P n1=>q_ (gy d3 (iJ (a5 rfl)) (si (a:=a) (h.le n1.le) G A F)) λv Q z O=>?_
 refine jj v O λc t=>?_
 have I:g≠c:=λq=>by have:=n1.at_;rw [q,t.fr] at this;contradiction
 have l:eD b (b.set c (.list ((aq 0).map ie))):=mV (jE n1.le t.fr)
 refine Bb (b:=b.set c (.list ((aq 0).map ie))) (o:=g) (f:=(·.2)) (x:=(·.1)) (dE:=tI) (J:=λm=>∃p s,m=[some (.ref d),some (.ref g),p,s]) rfl (rC A) (by rw [gw I];exact n1.fr) (z _ _ n1.at_) (gX _ _ _) (λN o e=>?_) ⟨_,_,rfl⟩ ?_ ?_
 .by_cases w:N=c
  .rw [w,gX] at e;rw [w,<-e];exact t.at_
  .rw [gw w] at e;exact z _ _ (n1.le _ _ e)
 .intro m M q _;refine Lk m M λp s=>?_
  exact gr [some (.ref d),some (.ref g),some (tI q.1),some (.int q.2)] rfl ⟨_,_,rfl⟩ (λb=>⟨a5 rfl,a5 rfl,a5 rfl⟩)
 .intro m E j K i H C;refine Lk m K λp s=>?_
  exact iM (a5 rfl) (L _ _ _ (b4 l C) (D g E j (b4 l C) ⟨i.dict,jE l i.fr,λe B=>⟨(i.ls e B).1,jE l (i.ls e B).2⟩,i.nd⟩ H))
end
noncomputable def keyOf:AV->AV
 | .tup (.tup w::_)=>.tup [.int (-(w.length:Int)),.tup w]
 |_=>.none
theorem I7 (h:Sr bj cM):Lt (keyOf (ie bj)) (keyOf (ie cM)):=by
 show Lt (.tup [.int (-((bj.1.map AV.int).length:Int)),tI bj.1]) (.tup [.int (-((cM.1.map AV.int).length:Int)),tI cM.1])
 rw [bb,bb]
 rcases h with h |⟨b,a⟩
 .exact .tup [] _ _ _ _ (.int (Int.neg_lt_neg (h9.mpr h)))
 .rw [b];exact .tup [.int (-(cM.1.length:Int))] _ _ [] [] (DW [] a)
theorem PN (r:Row):oO 4 (keyOf (ie r)):=.tup _ _ λx a=>by
 cases a with
 |head=>exact .int _ _
 |tail _ a=>
  cases a with
  |head=>exact DX 2 _
  |tail _ a=>exact (eg a).elim
theorem Nj (y:Al i e b g (gO b (a7.map ie))) (s:a7.length<=5) (f:aQ.Perm a7) (d:aQ.Pairwise Sr) (w:∀r t,Ev i [some (ie r)] t D (keyOf (ie r))):Al i e b (.ER g D) (gO b (aQ.map ie)):=λQ l=>by
 refine y _ λv n j p=>?_
 refine jj v p λc u=>?_
 refine f9 u.at_ _ ⟨(by rw [bb];exact c_ s (by decide)),keyOf,(λx a z o=>?_),(.inr λx a=>?_),?_,(aQ.map ie),(f.map _),?_,(λc2 k=>l _ _ (b4 j (mV k.1)) ⟨c2,rfl,(fN k).own j⟩)⟩
 .refine eS (ck.mp a) λq _ m=>?_;subst m
  exact w q n _ o
 .rw [et] at a
  refine iQ x (ck.mp a) λq _=>?_
  exact ⟨(PN q),_,_,rfl⟩
 .exact (f.map ie).pairwise (gi.mpr (d.imp λh=>.inl (I7 h))) λh=>h.symm
 .exact gi.mpr (d.imp λh=>I7 h)
theorem BZ (h:mY b d r) (G:tS r aq) (s:(aq 0).length<=5) (U:sz (aq 0)<1000) (K:∀km∈aq 0,km.1≠[]) (p:a7.Perm (aq 0)) (S:a7.Pairwise Sr) (N:∀t i u E j,eD b j->j t=some (.inst 5 u [(54,.ref i)])->kj j i E->strip E=tabOf a7->n (.ref t) j):Cl (eE PG (a+5)) (.fn 49) [.ref d] b n:=by
 refine jO [some (.ref d),none,none,none] (df _ _) rfl rfl λkn C R Y=>?_
 (injection C with C;subst C)
 refine zj λi s1 n1=>q_ (Nj (gy d3 (iJ (a5 rfl)) (si (a:=a) (h.le n1.le) G s U)) s p S λq j=>g6 (iL (wm (jd (pq (a:=0) (a5 rfl) d3 rfl) λ_ h=>.tup h)) (pq (a:=0) (a5 rfl) d3 rfl))) λv s2 l H=>?_
 refine jj v H λc B=>?_
 have W:i≠c:=λq=>by have:=n1.at_;rw [q,B.fr] at this;contradiction
 have L:eD b (b.set c (.list (a7.map ie))):=mV (jE n1.le B.fr)
 refine Bb (b:=b.set c (.list (a7.map ie))) (o:=i) (f:=rP) (x:=xI) (dE:=ie) (J:=λm=>∃z A,m=[some (.ref d),some (.ref i),z,A]) rfl (rC (p.length_eq▸s)) (by rw [gw W];exact n1.fr) (l _ _ n1.at_) (gX _ _ _) (λkl o e=>?_) ⟨_,_,rfl⟩ ?_ ?_
 .by_cases F:kl=c
  .rw [F,gX] at e;rw [F,<-e];exact B.at_
  .rw [gw F] at e;exact l _ _ (n1.le _ _ e)
 .intro m X q Z;refine Lk m X λz A=>?_
  refine gr [some (.ref d),some (.ref i),some (tI q.1),some (.int q.2)] rfl ⟨_,_,rfl⟩ (λb=>⟨a5 rfl,?_,g6 (iL (AX (a:=1) (a5 rfl) d3) (a5 rfl))⟩)
  refine qW (gg (K q (p.mem_iff.mp Z))) λg w e=>?_
  refine pq (j:=q.1.map .int) (a:=0) (a5 rfl) d3 ?_
  unfold rP;rw [e];rfl
 .intro m E j O T V I;refine Lk m O λz A=>?_
  exact sg (n:=n) (gy d3 (iJ (a5 rfl)) λQ M=>tq (df 4 a) λt u D fd K=>M _ _ (mV D.1) (N t i u E _ (b4 (b4 L I) (mV D.1)) (gX _ _ _) (T.tab.le (mV D.1)) V)) λv kq l H=>Y _ _ _ (b4 (b4 L I) l) H
inductive Bd (s0 st:AS) (f t:Nat) (held:List Int):Prop where
 |mk (dx l:Nat) (h0:st f=some (.inst 7 dx [(56,.ref t),(57,.ref l)])) (h1:st l=some (.list (held.map .int))) (h2:s0 f=none) (h3:s0 l=none):Bd s0 st f t held
theorem tD (d:eD b q) (g:eD q ax) (c:i0 q ax a ay):eD b (b.set a ay)/\eD (b.set a ay) ax:=by
 refine ⟨mV (jE d c.fr),λx h e=>?_⟩
 by_cases f:x=a
 .subst f;rw [gX] at e;rw [<-e];exact c.at_
 .rw [gw f] at e;exact g _ _ (d _ _ e)
theorem Bd.with (h:Bd b q a d a8) (j:eD q ax) (n:i0 q ax o ay):Bd (b.set o ay) ax a d a8:=by
 obtain ⟨r,l,k,g,m,p⟩:=h
 have i:∀c f,q c=some f->b c=none->(b.set o ay) c=none:=λc f e s=>(gw λt=>by rw [t,n.fr] at e;contradiction).trans s
 exact ⟨r,l,j _ _ k,j _ _ g,i _ _ k m,i _ _ g p⟩
theorem Bd.base (h:Bd q ax a d a8) (c:eD b q):Bd b ax a d a8:=let ⟨g,l,j,f,e,i⟩:=h;⟨g,l,j,f,jE c e,jE c i⟩
theorem vq (h:(b.set a ay) d=none):d≠a/\b d=none:=by
 have c:d≠a:=λq=>by rw [q,gX] at h;contradiction
 exact ⟨c,by rwa [gw c] at h⟩
theorem Bd.upd {t:Nat} {o:AO} (h:Bd (b.set d o) q a t a8) (m:eD (b.set d o) q) (u:Upd q ax d ay):Bd (b.set d ay) ax a t a8/\eD (b.set d ay) ax:=by
 obtain ⟨p,l,s,k,j,n⟩:=h
 have f:=vq j
 have g:=vq n
 refine ⟨⟨p,l,(u.ne a f.1).trans s,(u.ne l g.1).trans k,(gw f.1).trans f.2,(gw g.1).trans g.2⟩,λi r e=>?_⟩
 by_cases c:i=d
 .rw [c,gX] at e;rw [c,<-e];exact u.at_
 .rw [gw c] at e;exact (u.ne i c).trans (m i r ((gw c).trans e))
theorem I8 (w:mY q o r) (p:r.Ok) (h:Bd b q d o a8) (g:eD b q) (x:0<a8.length) (t:a8.length<=10000) (m:∀f,eD b f->Bd b f d o (a8.drop (fY [r] a8).1)->n (.int (fY [r] a8).2) f):eE PG (a+6) (.fn 56) [.ref d] q n:=by
 obtain ⟨j,l,k,s,i,y⟩:=h
 refine FF (df _ _) ⟨k,s,w,p⟩ x t λe u=>?_
 have n1:=fN (ay:=.list ((a8.drop (fY [r] a8).1).map .int)) u
 have u2:=pv (b:=q.set e (.list ((a8.drop (fY [r] a8).1).map .int))) (a:=d) (ay:=.inst 7 j [(56,.ref o),(57,.ref e)])
 have v:=u2.le (b4 g n1.le) i
 exact m _ v ⟨j,e,u2.at_,(u2.ne e (n1.ne k).symm).trans n1.at_,i,jE g n1.fr⟩
theorem I9 (h:Ev i e b (.attr g a) (.ref d)) (f:b d=some (.list j)):Tv i e b (.attr g a) (!j.isEmpty):=λQ c=>h _ (ej _ (.list f) c)
noncomputable def QL (X:Ak) (a:Nat) (r:w0) (T:Fl->MM->AS->Prop) (m:MM) (v:AV) (st:AS):Prop:=∃xs,st a=some (.list xs)/\y4 a xs st (λ_ st=>jo PG X r m st T) 0 [v]
theorem Nk (f:b a=some (.list j)) (d:j.length<fF) (h:∀c,Upd b c a (.list (j++[l]))->jo PG i ah e c ag):QL i a ah ag e l b:=ej _ f (.app d (h _ pv))
theorem Nl (d:Ev i e b g (.ref a)) (f:b a=some (.list j)) (h:VE PG i D e b λv c=>QL i a ah ag e v c):jo PG i (.cons (.ex (.fM g 0 (.cons D .nil))) ah) e b ag:=d _ (.list f (.inl rfl) h)
theorem add_lists (k:b a=some (.list j)) (i:b d=some (.list aN)) (f:j.length+aN.length<=fF) (h:∀c e,sf b e c (.list (j++aN))->n (.ref c) e):Aj b n .add (.ref a) (.ref d):=.app k i f λc g=>h c _ (fN g)
theorem sM (a:List Int->Nat×Int) (b:∀a8,0<a8.length->0<(a a8).1) (c:0<a8.length):iF a a8.length a8=(a a8).2::iF a (a8.drop (a a8).1).length (a8.drop (a a8).1):=by
 induction a8 using el with
 |nil=>contradiction
 |cons g a8=>
  show (a (g::a8)).2::iF a a8.length _=_
  rw [vl a b a8.length]
  have:=b (g::a8) c
  rw [ey,e_];exact j8 (d7 this _)
theorem p7 (A:Au):∀s:List Int,0<s.length->0<(fY [A] s).1:=λs a=>(q8 [A] a).2
theorem FZ (G:mY b o r) (A:r.Ok) (h:Bd b q d o a8) (v:eD b q) (E:a8.length<=10000) (I:∀c j,eD b j->i0 b j c (.list ((iF (fY [r]) a8.length a8).map .int))->n (.ref c) j):eE PG (a+8) (.fn 58) [.ref d] q n:=by
 refine gP [some (.ref d),none] (df 2 _) rfl rfl (sF gQ λc s1 n1=>?_)
 have H:=tD v n1.le (n1.own (ed _))
 refine oN a8.length (λN m j=>∃e f,N=e.length/\m=[some (.ref d),some (.ref c)]/\Bd (b.set c (.list (f.map .int))) j d o e/\eD (b.set c (.list (f.map .int))) j/\f.length+e.length<=10000/\f++iF (fY [r]) e.length e=iF (fY [r]) a8.length a8)
  (nY a8 [] rfl rfl (h.with n1.le (n1.own (ed _))) H.2 (by rw [qJ,iW];exact E) rfl) ?_
 intro N m j O K D;refine iP O λe f S W F y k z=>?_;clear O;subst S;subst W
 have x:b c=none:=jE v n1.fr
 obtain ⟨V,l,t,w,B,C⟩:=id F
 refine ej _ (pw (I9 (eO (a5 rfl) t rfl) w)) (λJ i=>⟨λR=>?_,λR=>?_⟩)
 .have u:0<e.length:=by
   clear G A h v E I n1 H D F y k z x t w B C i;induction e using el with
   |nil=>contradiction
   |cons g s=>exact fB _
  have U:Bd (b.set c (.list (f.map .int))) J d o e:=⟨V,l,i _ _ t,i _ _ w,B,C⟩
  have p:=b4 y i
  have Y:=p _ _ (gX b c _)
  refine Nl (a5 rfl) Y (jr (a5 rfl) (i _ _ t) rfl rfl rfl gQ (I8 (a:=a+1) (G.le (b4 (mV x) p)) A U p u (a_ (df _ _) k) λkl L T=>?_))
  refine Nk (L _ _ (gX b c _)) (by rw [bb];exact c_ (a_ (eh _ _) k) (by unfold fF;decide)) λkm X=>?_
  have Z:=p7 r e u
  refine iK (T.upd L X) λQ P=>?_
  have e1:f.map AV.int++[.int (fY [r] e).2]=(f++[(fY [r] e).2]).map .int:=by rw [b_];rfl
  rw [e1] at Q P
  have M:(e.drop (fY [r] e).1).length<e.length:=by rw [ey];exact kf u Z
  refine D _ _ _ M (nY _ _ rfl rfl Q P ?_ ?_)
  .rw [bh]
   exact a_ (a_ (gv (fJ _ _ _)) (d7 (by rw [eY];exact M) _)) k
  .rw [eC,<-z,sM _ (p7 r) u];rfl
 .have u:e=[]:=by
   clear G A h v E I n1 H D F y k z x t w B C i;induction e using el with
   |nil=>rfl
   |cons g s=>contradiction
  clear G A h v E n1 H D F k t w B C R;subst u
  rw [show iF (fY [r]) ([]:List Int).length []=[] from rfl,eR] at z
  rw [z] at y
  have p:=b4 y i
  exact iM (a5 rfl) (ej _ (ed _) (I c J (b4 (mV x) p) ⟨p _ _ (gX _ _ _),x⟩))
noncomputable def jx (A:Au):Nat->List Int->List Int×List Int
 |0,h=>([],h)
 |_+1,[]=>([],[])
 |f+1,g::s=>if jF A 0 (g::s) then ([],g::s) else ((fY [A] (g::s)).2::(jx A f ((g::s).drop (fY [A] (g::s)).1)).1,(jx A f ((g::s).drop (fY [A] (g::s)).1)).2)
theorem wy (A:Au):∀(f:Nat) (s:List Int),s.length<=f->jx A f s=jx A s.length s
 |0,[],_=>rfl
 |f+1,[],_=>rfl
 |f+1,g::s,h=>by
  have b:=p7 A (g::s) (fB _)
  have a:((g::s).drop (fY [A] (g::s)).1).length<=s.length:=by rw [ey];exact eX (kf (fB _) b)
  show (if _ then _ else _)=(if _ then _ else _)
  rw [wy A f _ (a_ a (gZ h)),wy A s.length _ a]
theorem vr (b:0<a8.length):jx r a8.length a8=if jF r 0 a8 then ([],a8) else ((fY [r] a8).2::(jx r (a8.drop (fY [r] a8).1).length (a8.drop (fY [r] a8).1)).1,(jx r (a8.drop (fY [r] a8).1).length (a8.drop (fY [r] a8).1)).2):=by
 induction a8 using el with
 |nil=>contradiction
 |cons g a8=>
  have a:=p7 r (g::a8) (fB _)
  show (if _ then _ else ((fY [r] (g::a8)).2::(jx r a8.length _).1,(jx r a8.length _).2))=_
  rw [wy r a8.length ((g::a8).drop (fY [r] (g::a8)).1) (by rw [ey];exact eX (kf (fB _) a))]
theorem Kk (H:mY b o r) (D:r.Ok) (h:Bd b q d o a8) (J:eD b q) (E:a8.length<10000) (w:∀c t,eD b t->i0 b t c (.list ((jx r (a8.length+1) (a8++[p])).1.map .int))->Bd b t d o (jx r (a8.length+1) (a8++[p])).2->n (.ref c) t):eE PG (a+8) (.fn 57) [.ref d,.int p] q n:=by
 have F:a8.length+1=(a8++[p]).length:=by rw [bh];rfl
 rw [F] at w
 obtain ⟨L,l,g,i,x,u⟩:=h
 refine gP [some (.ref d),some (.int p),none] (df 2 _) rfl rfl (qC (eO (a5 rfl) g rfl) i (by rw [bb];exact gG E (by unfold fF;decide)) (a5 rfl) λs1 u1=>sF gQ λc s2 j=>?_)
 have I:=u1.le J u
 have P:Bd b s1 d o (a8++[p]):=⟨L,l,(u1.ne d λkx=>by rw [kx,i] at g;(injection g;contradiction)).trans g,by rw [u1.at_,b_];rfl,x,u⟩
 have Q:=tD I j.le (j.own (ed _))
 have B:b c=none:=jE I j.fr
 refine oN (a8++[p]).length (λN m t=>∃e k,N=e.length/\m=[some (.ref d),some (.int p),some (.ref c)]/\Bd (b.set c (.list (k.map .int))) t d o e/\eD (b.set c (.list (k.map .int))) t/\k.length+e.length<=10000/\k++(jx r e.length e).1=(jx r (a8++[p]).length (a8++[p])).1/\(jx r e.length e).2=(jx r (a8++[p]).length (a8++[p])).2)
  ⟨(a8++[p]),[],rfl,rfl,(P.with j.le (j.own (ed _))),Q.2,(by rw [<-F,qJ,iW];exact E),rfl,rfl⟩ ?_
 intro N m t kq K M;refine Ah kq λe k Z kn O G y C A=>?_;subst Z;subst kn
 obtain ⟨L,l,g,i,x,u⟩:=id O
 refine ej _ (DU (pw (I9 (eO (a5 rfl) g rfl) i)) λ_ T f=>yx (MV (aw:=jF r 0 e) λn w=>jr (a5 rfl) (f _ _ g) rfl rfl rfl gQ (DT (df 5 _) ⟨f _ _ g,f _ _ i,H.le (b4 (mV B) (b4 G f)),D⟩ (w _ _ (ed _) rfl)))) (λT f=>⟨λv=>?_,λv=>?_⟩)
 .rw [eV,fL,fL] at v
  have R:0<e.length:=by
   clear H D J E w F u1 j I P Q B M O G y C A g i x u f;induction e using el with
   |nil=>injection v.1
   |cons p S=>exact fB _
  have km:Bd (b.set c (.list (k.map .int))) T d o e:=⟨L,l,f _ _ g,f _ _ i,x,u⟩
  have z:=b4 G f
  have ku:=z _ _ (gX b c _)
  refine Nl (a5 rfl) ku (jr (a5 rfl) (f _ _ g) rfl rfl rfl gQ (I8 (a:=a+1) (H.le (b4 (mV B) z)) D km z R (a_ (df _ _) y) λky V kl=>?_))
  refine Nk (V _ _ (gX b c _)) (by rw [bb];exact c_ (a_ (eh _ _) y) (by unfold fF;decide)) λkz u4=>?_
  have hp:=p7 r e R
  refine iK (kl.upd V u4) λY X=>?_
  have e1:k.map AV.int++[.int (fY [r] e).2]=(k++[(fY [r] e).2]).map .int:=by rw [b_];rfl
  rw [e1] at Y X
  have W:(e.drop (fY [r] e).1).length<e.length:=by rw [ey];exact kf R hp
  rw [vr R,v.2] at C A
  refine M _ _ _ W ⟨_,_,rfl,rfl,Y,X,?_,(by rw [eC];exact C),A⟩
  rw [bh]
  exact a_ (a_ (gv (fJ _ _ _)) (d7 (by rw [eY];exact W) _)) y
 .have U:jx r e.length e=([],e):=by
   clear H D J E w F u1 j I P Q B M O G y C A g i x u f;induction e using el with
   |nil=>rfl
   |cons p S=>
    rw [vr (a8:=p::S) (fB _)]
    have:jF r 0 (p::S)=true:=by
     rw [Bool.and_eq_false_iff] at v
     exact v.elim (λh=>by contradiction) λh=>by rwa [jM] at h
    rw [this];rfl
  rw [U,eR] at C
  rw [U] at A
  clear H D J E F u1 j I P Q M O y v U;subst C A
  have z:=b4 G f
  exact iM (a5 rfl) (ej _ (ed _) (w c T (b4 (mV B) z) ⟨z _ _ (gX _ _ _),B⟩ ⟨L,l,f _ _ g,f _ _ i,(vq x).2,(vq u).2⟩))
noncomputable def kk (A:Au) (gs:List Int):List Int×List Int:=gs.foldl (λp g=>(p.1++(jx A (p.2.length+1) (p.2++[g])).1,(jx A (p.2.length+1) (p.2++[g])).2)) ([],[])
theorem vt (A:Au) (d:List Int) (g:Int):kk A (d++[g])=((kk A d).1++(jx A ((kk A d).2.length+1) ((kk A d).2++[g])).1,(jx A ((kk A d).2.length+1) ((kk A d).2++[g])).2):=by
 unfold kk;rw [iS];rfl
theorem CR (A:Au):∀(f:Nat) (s:List Int),(jx A f s).1.length+(jx A f s).2.length<=s.length
 |0,s=>by show 0+s.length<=_;rw [iW];exact eJ _
 |f+1,[]=>eJ _
 |f+1,g::s=>by
  show (ite _ _ _:List Int×List Int).1.length+(ite _ _ _:List Int×List Int).2.length<=_
  induction jF A 0 (g::s) using j5 with
  |true=>show 0+_<=_;rw [iW];exact eJ _
  |false=>
   have ih:=CR A f ((g::s).drop (fY [A] (g::s)).1)
   have h1:=p7 A (g::s) (fB _)
   show (jx A f _).1.length+1+(jx A f _).2.length<=_
   rw [ey] at ih
   rw [g0]
   exact a_ (fh ih) (kf (fB _) h1)
theorem Be (A:Au) (a:List Int):(kk A a).1.length+(kk A a).2.length<=a.length:=by
 induction a using snoc_ind with
 |h0=>exact eJ _
 |h1 d g b=>
  rw [vt,bh,bh,fJ]
  refine a_ (d7 (CR _ _ _) _) ?_
  rw [bh,<-fJ]
  exact gA b _
theorem F0 (a:List Int->Nat×Int):∀(f:Nat) (s:List Int),(iF a f s).length<=f
 |0,_=>eJ _
 |_+1,[]=>fy _
 |f+1,g::s=>fh (F0 a f _)
theorem HP (h:∀f g,eD b g->Bd b g f d []->n (.ref f) g):eE PG (a+4) (.cls 7) [.ref d] b n:=by
 refine zY rfl λm i s n1=>gP [some (.ref m),some (.ref d)] (df 2 _) rfl rfl (iq (a5 rfl _ (i8 (o:=7) (I:=i) (aS:=[]) (a5 rfl) n1.at_ λr u2=>iq (sh gQ λl q e=>i8 (o:=7) (I:=i) (aS:=[(56,.ref d)]) (a5 rfl) (e.le _ _ u2.at_) λp j=>(gr _ (ed _) rfl ?_)))))
 have k:=u2.le n1.le n1.fr
 have o:=e.ne u2.at_
 exact h m p (j.le (b4 k e.le) n1.fr) ⟨i,l,j.at_,(j.ne l o.symm).trans e.at_,n1.fr,jE k e.fr⟩
theorem xJ (c:aw=decide (aB<p)) (Q:Bool->Prop) (a:Q aw):pW b Q .gt (.int p) (.int aB):=.ord (congrArg some c.symm) a
theorem D5 (c:aw=decide (aB<=p)) (Q:Bool->Prop) (a:Q aw):pW b Q .ge (.int p) (.int aB):=.ord (congrArg some c.symm) a
theorem Nm (c:Ev i e b g (.bool aw)) (d:aw=true->Ev i e b D (.bool bN)):Ev i e b (.and g D) (.bool (aw&&bN)):=λQ a=>c _ (by
 clear c;induction aw with
 |true=>exact ej _ (.bool _) (d rfl _ a)
 |false=>exact (ej _ (.bool _) a))
theorem i0.base (h:i0 ax q a ay) (c:eD b ax):i0 b q a ay:=⟨h.at_,jE c h.fr⟩
theorem D6 (hA:mY b d r) (hO:r.Ok) (hw:b o=some (.list (a7.map ie))) (hW:a7.length<=5) (hg:b I=some (.list (a8.map .int))) (W:a8.length<10000) (hH:∀i e,a8=i++e->(kk r i).2=[]\/∃j∈a7,(kk r i).2.length<j.1.length/\jy j.1 (kk r i).2=true):
 Cl (eE PG (a+10)) (.fn 77) [.ref d,.ref o,.ref I] b (gO b (((kk r a8).1++iF (fY [r]) (kk r a8).2.length (kk r a8).2).map .int)):=by
 refine jO [some (.ref d),some (.ref o),some (.ref I),none,none,none,none] (df _ _) rfl rfl λk Y R hR=>?_
 (injection Y with Y;subst Y)
 refine je (g7 d3 (iJ (a5 rfl)) (HP (a:=a+5) λf s1 N M1=>sF gQ λc s2 A=>?_))
 have kD:=tD N A.le (A.own (ed _))
 refine oS (a5 rfl) (iG (.list I _) a8 .int (λQ=>gI (A.le _ _ (N _ _ hg))) (λi m X=>∃c J L,m=[some (.ref d),some (.ref o),some (.ref I),some (.ref f),some (.ref c),J,L]/\b c=none/\eD (b.set c (.list ((kk r i).1.map .int))) X/\Bd (b.set c (.list ((kk r i).1.map .int))) X f d (kk r i).2)
  (sv c _ _ rfl (jE N A.fr) kD.2 (M1.with A.le (A.own (ed _)))) (λi m X zf=>mX zf λc _ _ _ u z _=>z _ _ (mV u _ _ hg)) ?_ ?_)
 .intro i g r' m kz hd kC K hK;refine g5 m kC λc J L M O B=>?_
  have x:=mV (ay:=.list ((kk r i).1.map .int)) M
  have F:=Be r i
  have kn:i.length<10000:=c_ (by rw [hd,bh];exact eh _ _) W
  obtain ⟨S,l,u,z,H,T⟩:=id B
  refine ej _ rfl (je (wq (a5 rfl) (jr (a5 rfl) u rfl rfl rfl (iJ (a5 rfl)) (Kk (a:=a+1) (hA.le x) hO B O (c_ (a_ (df _ _) F) kn) λc2 ku y U M4=>add_lists (y _ _ (gX _ _ _)) U.at_ ?_ λC kl p=>?_))))
  .have:=Be r (i++[g])
   rw [vt,bh,bh] at this
   rw [bb,bb]
   refine a_ (a_ (eh _ _) this) ?_
   exact a_ (nT kn) (by unfold fF;decide)
  rw [<-b_] at p
  have V:=vt r i g
  have G:=hH (i++[g]) r' (by rw [hd,eC];rfl)
  rw [V] at G
  generalize hq:jx r ((kk r i).2.length+1) ((kk r i).2++[g])=q at*
  have km:=b4 x y
  have M5:Bd b ku f d q.2:=M4.base x
  have M6:=M5.with p.le (p.own (ed _))
  have b6:=tD km p.le (p.own (ed _))
  obtain ⟨S,l,u,z,H,T⟩:=id M6
  have kF:=hK [some (.ref d),some (.ref o),some (.ref I),some (.ref f),some (.ref C),some (.int g),some (tI q.2)]
  refine yy (qo (gy d3 (iJ (eO (a5 rfl) u rfl)) (n:=λv s=>v=tI q.2/\eD kl s) λQ hQ=>tuple_list (a:=a+8) z (hQ _ _ (ed _) ⟨rfl,ed _⟩)) λv s _ h=>h) λv kH Z hv=>?_
  refine Qm v hv λ_=>?_
  have kq:=b4 b6.2 Z
  have kB:=kq _ _ (b6.1 _ _ hw)
  refine pG (aw:=!decide (q.2=[])&&!a7.any (λj=>decide (j.1.length>q.2.length)&&jy j.1 q.2)) (DU (pw (f' (MX (bS:=[]) (a5 rfl) (g6 gQ)))) λ_ kG l7=>yx (rN (M0 (a:=a+8) (e9:=λj:Row=>decide (j.1.length>q.2.length)&&jy j.1 q.2) (tx _ (eA (rC hW)) (a5 rfl) (l7 _ _ kB) λj hr ky D=>
   (ej [none,some (tI j.1),some (.int j.2),some (tI q.2)] rfl (jG (Nm (fV (px (a5 rfl)) (px (a5 rfl)) (xJ (decide_eq_decide.mpr h9.symm))) λ_=>AY (rd (a5 rfl) (px (a5 rfl))) (a5 rfl)) rfl))) λ_ _=>rfl))) λky D=>⟨λE=>?_,λE=>hK _ _ (sv C _ _ rfl (jE km p.fr) ?_ ?_)⟩
  .exfalso
   rw [eV,fL,fL,decide_eq_false_iff_not,nL] at E
   rcases G with G |⟨j,hr,h5,h6⟩
   .exact E.1 G
   .exact E.2 j hr (by rw [eV,decide_eq_true_iff];exact ⟨h5,h6⟩)
  .rw [V];exact b4 kq D
  .rw [V];exact ⟨S,l,D _ _ (Z _ _ u),D _ _ (Z _ _ z),H,T⟩
 .intro m kz kx;refine g5 m kx λc J L M O B=>?_
  have x:=mV (ay:=.list ((kk r a8).1.map .int)) M
  have F:=Be r a8
  obtain ⟨S,l,u,z,H,T⟩:=id B
  refine AR (wq (a5 rfl) (jr (a5 rfl) u rfl rfl rfl gQ (FZ (a:=a+1) (hA.le x) hO B O (a_ (a_ (df _ _) F) (eA W)) λc2 ku y U=>add_lists (y _ _ (gX _ _ _)) U.at_ ?_ λC kl p=>hR _ _ _ (b4 (b4 x y) p.le) ⟨C,rfl,?_,jE (b4 x y) p.fr⟩)))
  .rw [bb,bb]
   exact a_ (d7 (F0 _ _ _) _) (a_ F (eA (gG W (by unfold fF;decide))))
  .rw [p.at_,<-b_]
theorem PO (d:a7.Pairwise λa b=>a.1<b.1) (e:aQ.Pairwise λa b=>a.1<b.1) (h:∀r,r∈a7↔r∈aQ):a7=aQ:=by
 have c:∀{a7:List Row},(a7.Pairwise λa b=>a.1<b.1)->a7.Nodup:=λh=>l_ (S:=λa b=>a≠b) (λ{a b} h q=>oh b.1 (by rw [q] at h;exact h)) h
 exact rz (λa b _ _ f g=>absurd (List.lt_trans f g) (oh _)) d e ((oe (c d) (c e)).mpr h)
theorem CT (c:a8.Nodup) (f:cp.Nodup) (h:∀g,g∈a8↔g∈cp):sortI a8=sortI cp:=
 rz (λa b _ _ d e=>uZ d e) (sG a8) (sG cp) ((sortI_perm a8).trans (((oe c f).mpr h).trans (sortI_perm cp).symm))
theorem sN (e:a7.Pairwise λa b=>a.1<b.1) (f:∀r∈a7,10<=r.2):([],p)∈a7↔p=sJ a7/\sJ a7≠-1:=by
 have h:=zl e f
 have d:([],p)∈a7↔([],p)∈a7.filter (λr=>r.1.isEmpty):=by rw [gB];exact ⟨λh=>⟨h,rfl⟩,λh=>h.1⟩
 rw [d,h]
 by_cases c:sJ a7= -1
 .rw [if_pos c];exact ⟨(by intros;contradiction),λh=>absurd c h.2⟩
 .rw [if_neg c,dt,BI];exact ⟨λh=>⟨h.2,c⟩,λh=>⟨rfl,h.1⟩⟩
theorem oT (h:aD.lookup p=some a):(p,a)∈aD:=by
 refine Lm aD (gT.mp h) λc b _=>?_
 exact fT _ (.head _)
theorem tS.tE (G:tS r aq) (c:a<r.steps.length):p∈(r.at a).map (·.1)↔after (aq a) p≠[]:=by
 refine ⟨(G.keys c).2 p,λh=>?_⟩
 refine j_ (i7 _ h) λb d=>?_
 exact (G.keys c).1 p b.1 b.2 (jU.mp d)
theorem tS.qO (G:tS r aq) {n:Nat} (b:n<r.steps.length) (h:after (aq n) p≠[]):∃t,r.step n p=some t/\aq t=after (aq n) p/\t<r.steps.length:=by
 induction a:r.step n p with
 |none=>exact absurd (G.stop n p b a) h
 |some t=>exact gr t rfl (G.step n p t b a).1 (oa G.ok a)
noncomputable abbrev zG:=Int×List (Int×Nat)
noncomputable def pz (A:Au) (h:Nat->Nat) (n:Nat):zG:=(A.end n,(sortI ((A.at n).map (·.1))).map λg=>(g,h ((A.step n g).getD 0)))
noncomputable def RR (A:Au):Prop:=∀n p,p∈A.at n->n<p.2
noncomputable def VN (A:Au) (L:Nat->List Row) (i:Nat) (h:Nat->Nat):Prop:=∀n m,i<=n->n<A.steps.length->i<=m->m<A.steps.length->(h n=h m↔L n=L m)
theorem CU (G:tS r aq) (i:RR r) (J:VN r aq a aO) (f:d<r.steps.length) (c:o<r.steps.length) (u:a<=d+1) (B:a<=o+1) (e:pz r aO d=pz r aO o):∀I∈aq d,I∈aq o:=by
 have D:r.end d=r.end o:=congrArg (·.1) e
 have H:=congrArg (·.2) e
 intro x b;obtain ⟨w,l⟩:=x
 induction w using el with
 |nil=>
  rw [sN (G.CQ d f) (G.HG d f),<-G.fin d f] at b
  rw [sN (G.CQ o c) (G.HG o c),<-G.fin o c,<-D]
  exact b
 |cons g w=>
  have b:=jU (bj:=(w,l)).mpr b
  refine gj (G.qO f (rE b)) λt m q p=>?_
  have C:=(G.tE f).mpr (rE b)
  have k:(g,aO t)∈(pz r aO d).2:=ck.mpr (ej g (ip.mpr C) (by rw [m];rfl))
  rw [H] at k
  refine eS (ck.mp k) λK y j=>?_
  cases (k7 j).1
  have z:=(G.tE c).mp (ip.mp y)
  refine gj (G.qO c z) λh n v F=>?_
  have E:aO h=aO t:=by have:=(k7 j).2;rwa [n] at this
  have s:=i d (g,t) (oT m)
  have A:=i o (g,h) (oT n)
  have:=(J h t (a_ B A) F (a_ u s) p).mp E
  exact jU.mp (by rw [<-v,this,q];exact b)
theorem Nn (G:tS r aq) (f:RR r) (j:VN r aq a aO) (c:d<r.steps.length) (b:o<r.steps.length) (h:a<=d+1) (i:a<=o+1):pz r aO d=pz r aO o↔aq d=aq o:=by
 refine ⟨λe=>PO (G.CQ d c) (G.CQ o b) λq=>⟨CU G f j c b h i e q,CU G f j b c i h e.symm q⟩,λe=>?_⟩
 unfold pz
 have x:sortI ((r.at d).map (·.1))=sortI ((r.at o).map (·.1)):=CT (G.ok.rO d) (G.ok.rO o) λg=>by rw [G.tE c,G.tE b,e]
 rw [G.fin d c,G.fin o b,x,e]
 refine congrArg _ (fm λg s=>?_)
 have l:=(G.tE b).mp (ip.mp s)
 refine gj (G.qO b l) λt m v u=>?_
 refine gj (G.qO (n:=d) c (by rw [e];exact l)) λk p w y=>?_
 rw [m,p]
 exact congrArg _ ((j k t (a_ h (f d (g,k) (oT p))) y (a_ i (f o (g,t) (oT m))) u).mpr (by rw [v,w,e]))
structure F1 (A:Au) (L:Nat->List Row) (i:Nat) (h:Nat->Nat) (K:List (zG×Nat)):Prop where
 rg:∀n,i<=n->n<A.steps.length->i<=h n/\h n<A.steps.length/\L (h n)=L n
 ok:VN A L i h
 kr:∀q∈K,i<=q.2/\q.2<A.steps.length/\q.1=pz A h q.2/\h q.2=q.2
 kc:∀n,i<=n->n<A.steps.length->pz A h n∈K.map (·.1)
theorem Bf (G:tS r aq) (e:RR r) (f:a<=d):pz r (λx=>if x=a then o else aO x) d=pz r aO d:=by
 unfold pz
 refine congrArg _ (fm λg c=>?_)
 have h:=nQ.mpr (ip.mp c)
 induction b:r.step d g with
 |none=>rw [show (r.at d).lookup g=none from b] at h;contradiction
 |some t=>
  have:=e d (g,t) (oT b)
  show (g,if t=a then o else aO t)=_
  rw [if_neg (show ¬t=a from λq=>jg d (ei (q▸this) f))];rfl
variable {cN:List (zG×Nat)}
theorem F1.step (G:tS r aq) (l:RR r) {u:List (zG×Nat)} (H:F1 r aq (a+1) aO cN) (t:a<r.steps.length) (j:(u=cN/\(pz r aO a,d)∈cN)\/(pz r aO a∉cN.map (·.1)/\u=cN++[(pz r aO a,a)]/\d=a)):F1 r aq a (λx=>if x=a then d else aO x) u:=by
 have h:∀{n},a<=n->n≠a->a+1<=n:=λf g=>ni f λq=>g q.symm
 have w:∀m,a+1<=m->m<r.steps.length->(pz r aO a=pz r aO m↔aq a=aq m):=λm f g=>Nn G l H.ok t g (eJ _) (fZ f)
 have k:a<=d/\d<r.steps.length/\aq d=aq a/\∀m,a+1<=m->m<r.steps.length->(d=aO m↔aq a=aq m):=by
  clear G l h;rcases j with ⟨_,s⟩ |⟨C,_,rfl⟩
  .refine wV (H.kr _ s) λo b c v=>?_
   have e:=(w d o b).mp c
   refine ur (nU o) b e.symm (λm f g=>?_)
   rw [e,<-H.ok d m o b f g,show aO d=d from v]
  .refine ur (eJ _) t rfl (λm f g=>⟨λq=>?_,λq=>?_⟩)
   .exact absurd ((H.rg m f g).1) (by rw [<-q];exact Jv _)
   .exact absurd (H.kc m f g) (by rw [<-(w m f g).mpr q];exact C)
 have A:∀q∈u,q∈cN\/q=(pz r aO a,a)/\d=a:=λq p=>by
  rcases j with ⟨rfl,_⟩ |⟨_,rfl,j⟩
  .exact .inl p
  .exact (eF.mp p).imp id λaO=>⟨dt.mp aO,j⟩
 refine ⟨λn f g=>?_,λn m f g y z=>?_,λq p=>?_,λn f g=>?_⟩
 .by_cases e:n=a
  .rw [if_pos e,e];exact iz k.1 k.2.1 k.2.2.1
  .rw [if_neg e]
   have:=H.rg n (h f e) g
   exact ⟨nU this.1,this.2⟩
 .by_cases e:n=a
  .by_cases i:m=a
   .rw [e,i];exact ⟨λ_=>rfl,λ_=>rfl⟩
   .show (if n=a then d else aO n)=(if m=a then d else aO m)↔_
    rw [if_pos e,if_neg i,e];exact k.2.2.2 m (h y i) z
  .show (if n=a then d else aO n)=(if m=a then d else aO m)↔_
   rw [if_neg e]
   by_cases i:m=a
   .rw [if_pos i,i]
    exact ⟨λq=>((k.2.2.2 n (h f e) g).mp q.symm).symm,λq=>((k.2.2.2 n (h f e) g).mpr q.symm).symm⟩
   .rw [if_neg i];exact H.ok n m (h f e) g (h y i) z
 .rcases A q p with p |⟨rfl,j⟩
  .refine wV (H.kr q p) λo b c v=>?_
   have B:=nU o
   refine ur B b (by rw [Bf G l B];exact c) ?_
   show (if q.2=a then d else aO q.2)=_
   rw [if_neg (show ¬q.2=a from λe=>Jv a (e▸o))];exact v
  .exact ur (eJ _) t (Bf G l (eJ _)).symm ((if_pos rfl).trans j)
 .rw [Bf G l f]
  clear G l t w k A;by_cases e:n=a
  .rw [e]
   clear H h f g e;rcases j with ⟨rfl,s⟩ |⟨_,rfl,_⟩
   .exact ck.mpr (ej _ s rfl)
   .rw [b_];exact fT _ (.head _)
  .have:=H.kc n (h f e) g
   clear H h f g e;rcases j with ⟨rfl,s⟩ |⟨_,rfl,_⟩
   .exact this
   .rw [b_];exact fR _ this
noncomputable def sj (k:Nat):AV:=.int k
noncomputable def I_ (p:Int×Nat):AV:=.tup [.int p.1,.int p.2]
noncomputable def Oo (q:zG):AV:=.tup [.int q.1,.tup (q.2.map I_)]
noncomputable def QM (K:List (zG×Nat)):List (AV×AV):=K.map λq=>(Oo q.1,.int q.2)
theorem xK (d:∀a b,dE a=dE b->a=b):∀{l k:List h},l.map dE=k.map dE->l=k
 |[],[],_=>rfl
 |x::l,y::k,c=>by rw [eG,eG,ix] at c;rw [d _ _ c.1,xK d c.2]
 |[],_::_,c=>nomatch c
 |_::_,[],c=>nomatch c
theorem PQ (p q:zG) (h:Oo p=Oo q):p=q:=by
 have d:=AV.tup.inj h
 have g:=(fq d).1
 have f:=AV.tup.inj (fq (fq d).2).1
 refine Qf (AV.int.inj g) (xK (λa b e=>?_) f)
 have c:=AV.tup.inj e
 exact Qf (AV.int.inj (fq c).1) (rA (AV.int.inj (fq (fq c).2).1))
theorem Ja (d:oO a l) (c:oO a af):oO (a+1) (.tup [l,af]):=.tup _ _ λx b=>by
 cases b with
 |head=>exact d
 |tail _ b=>
  cases b with
  |head=>exact c
  |tail _ b=>exact (eg b).elim
theorem Jb (q:zG):Lw (Oo q):=⟨⟨_,rfl⟩,Ja (.int _ _) (.tup _ _ λx a=>by
 refine iQ x (ck.mp a) λp _=>?_
 exact Ja (.int _ _) (.int _ _))⟩
theorem D7 (q:zG) (K:List (zG×Nat)):ta (Oo q) (QM K):=.inr ⟨Jb q,λp a=>by
 refine iQ p (ck.mp a) λx _=>?_;exact Jb _⟩
theorem Jc {q:zG}:Oo q∈(QM cN).map (·.1)↔q∈cN.map (·.1):=by
 unfold QM
 rw [et,ck,ck]
 exact ⟨λa=>eS a λx b e=>(ej x b (PQ _ _ e)),λa=>eS a λx b e=>(ej x b (congrArg Oo e))⟩
theorem yG (h:VE PG i g e b λv b=>VE PG i D e b λw b=>Aj b n bM v w):VE PG i (.bin bM g D) e b n:=h
theorem mul_list (k:b a=some (.list j)) (f:d<=fF) (i:j.length*d<=fF) (h:∀c e,sf b e c (.list (gm d j).flatten)->n (.ref c) e):Aj b n .mul (.ref a) (.int d):=.rep k f i λc g=>h c _ (fN g)
theorem Bg (x:h):∀k:Nat,(gm k [x]).flatten=gm k x
 |0=>rfl
 |k+1=>by rw [wG,La,Bg x k];rfl
theorem Kl (c:bH .pU ((eQ a).map λk=>.int ((a:Int) -1 - (k:Nat)))):oi b bH (.pU ((a:Int) -1) (-1) (-1)):=.pU (by
 unfold w'
 rw [if_neg (by decide),if_pos rfl,W7]) c
theorem D8 (k:Ev i e b g l) (d:Ev i e b D (.ref a)) (j:b a=some (.dict aC)) (f:ta l aC) (h:aw=true↔l∈aC.map (·.1)):Tv i e b (.cmp g .Cf D) (!aw):=
 f' (fV k d λQ c=>.Cf (.dict j f _ h) c)
variable {bT:List Nat}
theorem rj (h:eQ a=C++d::bT):d=C.length/\C.length<a:=by
 have e:=congrArg fj h
 rw [ff,bh,e_] at e
 have c:(eQ a)[C.length]? =some d:=by rw [h];simp
 have b:C.length<a:=by rw [e];exact gk (fB _)
 rw [ju b] at c
 exact ⟨(d5 c).symm,b⟩
theorem Np (b:a<C.length) (x:Nat):(C.set a d).getD x 0=if x=a then d else C.getD x 0:=by
 rw [ec,ec,nK]
 by_cases h:x=a
 .rw [if_pos h,if_pos h.symm,if_pos b];rfl
 .rw [if_neg h,if_neg λq=>h q.symm]
theorem HQ (b:a<C.length):(C.map sj)[a]? =some (.int (C.getD a 0:Nat)):=by
 rw [ee,ec,dj b];rfl
theorem HR (h:mY b d r) (G:tS r aq) (hF:RR r) (h5:∀i,(r.at i).length<=5) (Y:r.steps.length<=1000) (hP:∀E (c:List Nat) K f,eD b f->f E=some (.list (c.map sj))->c.length=r.steps.length->F1 r aq 0 (λx=>c.getD x 0) K->Cl (eE PG (a+5)) (.fn 60) [.ref d,.ref E] f n):Cl (eE PG (a+6)) (.fn 59) [.ref d] b n:=by
 refine jO [some (.ref d),none,none,none,none,none] (df _ _) rfl rfl λku hk R hR=>?_
 (injection hk with hk;subst hk)
 have km:∀(m:MM) f,m[0]? =some (some (.ref d))->eD b f->Ev (eE PG (a+5)) m f (.fM (.var 0) 9 .nil) (.int r.steps.length):=λm f hm E Q hQ=>by
  obtain ⟨dx,l,e,ds,J⟩:=id h
  exact jr (a5 hm) (E _ _ J.obj) rfl rfl rfl gQ (sE (df 4 _) (h.le E) hQ)
 refine je (yG (sh (iJ d3) λc0 s1 n1=>km _ _ rfl n1.le _ (mul_list n1.at_ (a_ Y (by unfold fF;decide)) (by rw [i9,UE];exact a_ Y (by unfold fF;decide)) λc1 s2 L=>zj λc2 s3 M=>?_)))
 have kn:=b4 n1.le (b4 L.le M.le)
 have kG:=M.ne L.at_
 obtain ⟨dx,l,e,ds,J⟩:=id h
 rw [Bg] at L
 refine A4 (g7 d3 (vD (ia (km _ _ rfl kn) d3 rfl) (wm d3) (wm d3)) (jI (ej [(r.steps.length:Int) -1,-1,-1] rfl (.down ⟨Sj Y,by decide,?_⟩))))
 refine iG .pU (eQ r.steps.length) (λku=>.int ((r.steps.length:Int) -1 - (ku:Nat))) (λQ=>Kl) (λp m f=>eD b f/\(∃(c:List Nat) (K:List (zG×Nat)),i0 b f c1 (.list (c.map sj))/\i0 b f c2 (.dict (QM K))/\K.length<=p.length/\c.length=r.steps.length/\F1 r aq (r.steps.length -p.length) (λx=>c.getD x 0) K)/\∃w3 F U,m=[some (.ref d),some (.ref c1),some (.ref c2),w3,F,U])
  (va kn ⟨gm r.steps.length 0,[],?_,M.own (b4 n1.le L.le),eJ _,pV,?_⟩ _ _ _ rfl) (λ_ _ _ _=>trivial) ?_ ?_
 .rw [xV]
  exact (L.own n1.le).le M.le
 .have kq:∀x,r.steps.length - ([]:List Nat).length<=x->x<r.steps.length->False:=λx B u=>jg x (ei u B)
  exact ⟨λx B u=>(kq x B u).elim,λx y B u=>(kq x B u).elim,(by intros;contradiction),λx B u=>(kq x B u).elim⟩
 .intro p y r' m kD hd kF K' ky;refine vd m kF λD A w3 F U=>?_;refine gq A λc K w z Z O H=>?_
  refine iK (rj hd) λA kl=>?_;clear hP hR km n1 M kn L hd kF;subst A
  have kN:r.steps.length -p.length=(r.steps.length - (p.length+1))+1:=by exact Of (d:=0) (iX kl)
  rw [kN] at H
  have kO:((r.steps.length:Int) -1 - (p.length:Nat))=((r.steps.length - (p.length+1):Nat):Int):=cs kl
  rw [kO]
  have W:r.steps.length - (p.length+1)<r.steps.length:=by exact kf (c_ (fy _) kl) (fB _)
  have kM:∀g,r.steps.length - (p++[p.length]).length=r.steps.length - (p.length+1):=λg:Nat=>by rw [bh];rfl
  rw [kM 0] at ky
  generalize r.steps.length - (p.length+1)=i at*
  refine eS (J.dict W) λdd kT kH=>?_
  have kI:∀{X:Ak} {m:MM} {f:AS} {kB S:Nat},eD b f->m[kB]? =some (some (.ref d))->m[S]? =some (some (.int i))->Ev X m f (.sub (.attr (.var kB) 32) (.var S)) (.ref dd):=λE hm hq=>ft (eO (a5 hm) (E _ _ J.obj) rfl) (E _ _ J.steps) (a5 hq) kT
  have kX:∀s:List (Int×Nat),(dV s).map (·.1)=(s.map (·.1)).map AV.int:=λs=>by unfold dV;rw [et,et];rfl
  have kC:((r.at i).map (·.1)).length<=5:=by rw [bb];exact h5 i
  refine ej [some (.ref d),some (.ref c1),some (.ref c2),some (.int i),F,U] rfl (yy (p3 (a:=a+4) (n:=λo _=>o= .tup ((pz r (λx=>c.getD x 0) i).2.map I_)) (qo (xC (λg=>I_ (g,c.getD ((r.step i g).getD 0) 0)) (eA (rC (by rw [(sortI_perm _).length_eq];exact kC))) (gy d3 (iJ (kI D rfl rfl)) (sI (a:=a+4) (q7 (D _ _ kH) (nP _)|>λh Q hQ=>h Q (by rw [kX];exact hQ)) kC)) λg hg kx C=>?_) λo s _ T=>?_) λ_ _=>rfl) λo kx C T=>?_)
  .have B:=nQ.mpr (ip.mp hg)
   induction u:r.step i g with
   |none=>rw [show (r.at i).lookup g=none from u] at B;contradiction
   |some t=>
    have ht:=oa G.ok u
    refine ej [none,some (.int g),some (.ref c1),some (.int i),some (.ref d)] rfl (jG (g6 (iL (a5 rfl) (ft (a5 rfl) (C _ _ w.at_) (sa (kI (kB:=4) (S:=3) (b4 D C) rfl rfl) (b4 D C _ _ kH) (a5 rfl) (.inl ⟨⟨_,rfl⟩,nP _⟩) (rL u)) (HQ (O▸ht))))) rfl)
  .rw [show (pz r (λx=>c.getD x 0) i).2.map I_=_ from et ..];exact T
  subst T
  have V:=b4 D C
  refine g9 (l:=Oo (pz r (λx=>c.getD x 0) i)) (g6 (iL (ft (eO (a5 rfl) (V _ _ J.obj) rfl) (V _ _ J.ends) (a5 rfl) (vk G.ok W)) (a5 rfl))) ?_
  have w:=w.le C
  have z:=z.le C
  refine yB (λm f=>eD b f/\(∃I o,i0 b f c1 (.list (c.map sj))/\i0 b f c2 (.dict (QM I))/\I.length<=p.length+1/\(pz r (λx=>c.getD x 0) i,o)∈I/\((I=K/\(pz r (λx=>c.getD x 0) i,o)∈K)\/(pz r (λx=>c.getD x 0) i∉K.map (·.1)/\I=K++[(pz r (λx=>c.getD x 0) i,i)]/\o=i)))/\∃F,m=[some (.ref d),some (.ref c1),some (.ref c2),some (.int i),F,some (Oo (pz r (λx=>c.getD x 0) i))]) (λK3 kJ=>yC (D8 (a5 rfl) (a5 rfl) z.at_ (D7 _ _) (decide_eq_true_iff.trans Jc.symm) _ ?_)) ?_
  .by_cases N:pz r (λx=>c.getD x 0) i∈K.map (·.1)
   .rw [decide_eq_true N]
    refine eS (ck.mp N) λA hq e=>?_;obtain ⟨S,o⟩:=A
    subst e
    exact kJ _ _ ⟨V,⟨K,o,w,z,fZ Z,hq,.inl ⟨rfl,hq⟩⟩,_,rfl⟩
   .rw [decide_eq_false N]
    refine wx (a5 rfl) (a5 rfl) z.at_ (a5 rfl) (D7 _ _) (by unfold QM;rw [bb];exact c_ (a_ Z (a_ (eA kl) Y)) (by unfold fF;decide)) λkW u6=>kJ _ _ ⟨(u6.le V z.fr),⟨K++[(pz r (λx=>c.getD x 0) i,i)],i,w.keep u6 kG,?_,by rw [bh];exact fh Z,fT _ (.head _),.inr ⟨N,rfl,rfl⟩⟩,_,rfl⟩
    have:=u6.own (s0:=b) z.fr
    rw [jZ (λS=>N (Jc.mp S))] at this
    rw [show QM (K++[(pz r (λx=>c.getD x 0) i,i)])=QM K++[(Oo (pz r (λx=>c.getD x 0) i),.int i)] from b_ ..]
    exact this
  .intro m kW kK;refine Ll m kK λkV A F=>?_;refine gq A λI o w z kP kQ kU=>?_
   have kz:i<c.length:=O▸W
   refine A3 (l:=.int o) (sa (a5 rfl) z.at_ (a5 rfl) (D7 _ _) (ck.mpr (ej _ kQ rfl))) (a5 rfl) w.at_ (a5 rfl) (by rw [bb];exact kz) λkZ u7=>ky _ _ (va (u7.le kV w.fr) ⟨c.set i o,I,?_,z.keep u7 kG.symm,by rw [bh];exact kP,by rw [gJ];exact O,?_⟩ _ _ _ rfl)
   .rw [GH];exact u7.own w.fr
   .rw [show (λx=>(c.set i o).getD x 0)=λx=>if x=i then o else c.getD x 0 from funext λx=>Np kz x]
    exact H.step G hF W kU
 .intro m kD kY;refine vd m kY λD A w3 F U=>?_;refine gq A λc K w z Z O H=>?_
  rw [ff,jB] at H
  exact sg (gy d3 (iL (a5 rfl) (a5 rfl)) (hP c1 c K kD D w.at_ O H)) λo kx C T=>hR _ _ _ (b4 D C) T
noncomputable def nR (j:Nat):Nat->List Nat->Option Nat
 |k,[]=>some k
 |k,t::ts=>if k<=j\/k<t then none else nR j (max k (t+1)) ts
noncomputable def pQ:Nat->Nat->List (List (Int×Nat))->Option Nat
 |k,_,[]=>some k
 |k,j,s::S=>(nR j k (s.map (·.2))).bind λk'=>pQ k' (j+1) S
theorem F2 (j t:Nat):∀(a:List Nat) (k:Nat),nR j k (a++[t])=(nR j k a).bind λb=>if b<=j\/b<t then none else some (max b (t+1)):=by
 intro d
 induction d with
 |nil=>
  intro k
  exact rfl
 |cons u a c=>
  intro k
  show (if _ then _ else _)=(if _ then _ else _:Option Nat).bind _
  by_cases h:k<=j\/k<u
  .rw [if_pos h,if_pos h];rfl
  .rw [if_neg h,if_neg h];exact c _
theorem F3 (s:List (Int×Nat)):∀(S:List (List (Int×Nat))) (k j:Nat),pQ k j (S++[s])=(pQ k j S).bind λa=>nR (j+S.length) a (s.map (·.2)):=by
 intro c
 induction c with
 |nil=>
  intro k j
  show (nR j k _).bind (λa=>some a)=nR (j+0) k _
  cases nR j k (s.map (·.2))<;>rfl
 |cons u S b=>
  intro k j
  show (nR j k _).bind (λa=>pQ a (j+1) (S++[s]))=((nR j k _).bind λa=>pQ a (j+1) S).bind _
  induction nR j k (u.map (·.2)) using d_ with
  |none=>rfl
  |some a=>
   show pQ a (j+1) (S++[s])=(pQ a (j+1) S).bind _
   rw [b,e_,fJ,eY 1]
structure F4 (A:Au) (h:Nat->Nat) (o:List Nat) (x:Nat) (D:List Int) (s:List (Int×Nat)):Prop where
 keys:s.map (·.1)=D
 to:∀p∈s,∃c,A.step x p.1=some c/\o[p.2]? =some (h c)
structure Br (A:Au) (L:Nat->List Row) (h:Nat->Nat) (o:List Nat) (S:List (List (Int×Nat))) (es:List Int):Prop where
 o0:o[0]? =some (h 0)
 nd:o.Nodup
 rep:∀x∈o,x<A.steps.length/\h x=x/\∃u,L x=gH (L 0) u/\(u=[]\/L x≠[])
 le:S.length<=o.length
 row:∀(j:Nat) s x,S[j]? =some s->o[j]? =some x->F4 A h o x (sortI ((A.at x).map (·.1))) s
 es:es=(o.take S.length).map A.end
theorem F4.more (d:F4 r aO C a a8 aD) (y:List Nat):F4 r aO (C++y) a a8 aD:=⟨d.keys,λp e=>eS (d.to p e) λc f b=>(ej c f (by rw [eN (gz b)];exact b))⟩
theorem Br.more (b:Br r aq aO C aP a8) (g:a∉C) (i:a<r.steps.length/\aO a=a/\∃u,aq a=gH (aq 0) u/\(u=[]\/aq a≠[])):Br r aq aO (C++[a]) aP a8 where
 o0:=by rw [eN (gz b.o0)];exact b.o0
 nd:=eP.mpr ⟨b.nd,eT.mpr ⟨eg,eI⟩,λl k c f q=>g (by rw [<-dt.mp f,<-q];exact k)⟩
 rep y d:=(eF.mp d).elim (b.rep y) λd=>by rw [dt.mp d];exact i
 le:=by rw [bh];exact fZ b.le
 row j s y e d:=by
  have h:=ei (gz e) b.le
  rw [eN h] at d
  exact (b.row j s y e d).more _
 es:=by rw [List.take_append_of_le_length b.le];exact b.es
theorem Br.push (b:Br r aq aO C aP a8) (f:C[aP.length]? =some a) (i:F4 r aO C a (sortI ((r.at a).map (·.1))) aD):Br r aq aO C (aP++[aD]) (a8++[r.end a]) where
 o0:=b.o0
 nd:=b.nd
 rep:=b.rep
 le:=by rw [bh];exact gz f
 row j t y c d:=by
  rcases j' j aP.length with h |e
  .rw [eN h] at c;exact b.row j t y c d
  .rw [fk e] at c
   have g:j=aP.length:=by
    have:=gz c
    rw [i9] at this
    exact ir (nH (iZ.mp this)) e
   clear b e;subst g
   rw [jB] at c
   (injection c with c;subst c)
   rw [f] at d;(injection d with d;subst d)
   exact i
 es:=by rw [bh,b.es,i9,K_,f,b_];rfl
theorem Br.x5 (G:tS r aq) (H:∀n,n<r.steps.length->aO n<r.steps.length/\aq (aO n)=aq n) (b:Br r aq aO C aP a8) (w:aP.length=C.length):tS ⟨aP,a8⟩ (λj=>aq (C.getD j 0)):=by
 have k:∀j,j<aP.length->∃x s,C[j]? =some x/\aP[j]? =some s/\(⟨aP,a8⟩:Au).at j=s/\C.getD j 0=x/\x<r.steps.length/\F4 r aO C x (sortI ((r.at x).map (·.1))) s:=λj a=>by
  have B:j<C.length:=w▸a
  have y:=dj a
  have z:=dj B
  refine nY _ _ z y ?_ ?_ (b.rep _ (fO B)).1 (b.row j _ _ y z)
  .show aP.getD j []=_
   rw [ec,y];rfl
  .rw [ec,z];rfl
 have E:a8.length=aP.length:=by rw [b.es,bb,fS,j3 b.le]
 have F:∀j g t,j<aP.length->(⟨aP,a8⟩:Au).step j g=some t->∃x c,C.getD j 0=x/\x<r.steps.length/\r.step x g=some c/\C[t]? =some (aO c):=λj g t a e=>by
  refine iP (k j a) λx s l m h f d i=>?_
  unfold U_ at e
  rw [h] at e
  refine eS (i.to (g,t) (oT e)) λc q o=>?_
  exact pg x c f d q o
 refine ⟨QK E ?_ (λj p v=>?_) λj=>?_,λj a=>?_,λj g t a e=>?_,λj g a e=>?_,λj a=>?_,λj a=>?_⟩
 .show 0<aP.length
  rw [w];exact gz b.o0
 .refine iK (wu v) λa _=>?_
  refine iP (k j a) λx s l m h f d i=>?_
  rw [h] at v
  refine eS (i.to p v) λc q o=>?_
  show p.2<aP.length
  rw [w];exact gz o
 .by_cases a:j<aP.length
  .refine iP (k j a) λx s l m h f d i=>?_
   rw [h,i.keys]
   exact (sortI_perm _).symm.nodup (G.ok.rO x)
  .rw [show (⟨aP,a8⟩:Au).at j=[] from yE a];exact eI
 .refine iP (k j a) λx s l m h f d i=>?_
  rw [f,<-G.fin x d]
  show a8.getD j (-1)=_
  rw [ec,b.es,ee,Ew a,l];rfl
 .refine nW (F j g t a e) λx c f d q o=>?_
  have u:=G.step x g c d q
  rw [f,<-u.1,ec,o]
  have D:=(H c (oa G.ok q)).2
  exact ⟨D,by rw [u.1];exact u.2⟩
 .refine iP (k j a) λx s l m h f d i=>?_
  rw [f]
  have A:g∉s.map (·.1):=by
   unfold U_ at e
   rw [h] at e
   exact lookup_none e
  rw [i.keys,ip,G.tE d] at A
  exact gh A
 .refine iP (k j a) λx s l m h f d i=>?_
  rw [f];exact G.CQ x d
 .refine iP (k j a) λx s l m h f d i=>?_
  rw [f];exact G.HG x d
noncomputable def QN (o:List Nat):List (AV×AV):=o.mapIdx λ(j x:Nat)=>(.int x,.int j)
theorem Nq (o:List Nat) (x:Nat):QN (o++[x])=QN o++[(.int x,.int o.length)]:=KR
theorem Jd (h:C[a]? =some d):(AV.int d,AV.int a)∈QN C:=by
 obtain ⟨b,c⟩:=ew.mp h
 exact o9.mpr ⟨a,b,by rw [c]⟩
theorem D9 (o:List Nat):IntKeys (QN o):=λp a=>by
 obtain ⟨i,b,rfl⟩:=o9.mp a;exact ⟨_,rfl⟩
theorem F5:AV.int a∈(QN C).map (·.1)↔a∈C:=by
 constructor
 .intro h
  refine eS (ck.mp h) λp c e=>?_
  obtain ⟨i,b,rfl⟩:=o9.mp c
  have:C[i]=a:=rA (AV.int.inj e)
  exact this▸fO b
 .intro h
  obtain ⟨t,d⟩:=eZ.mp h
  exact ck.mpr (ej _ (Jd d) rfl)
theorem PR (j:∀s,Ev i e s g (.ref o)) (p:b o=some (.inst I ak aS)) (h:∀c1 c2 l f c k,sf b l c1 (.list [])->sf l f c2 (.list [])->Upd f c o (.inst I ak (iy aS a (.ref c1)))->Upd c k o (.inst I ak (iy (iy aS a (.ref c1)) d (.ref c2)))->jo PG i ah e k ag):
 jo PG i (.cons (.ES g a g d (.tup (.cons (.lst .nil) (.cons (.lst .nil) .nil)))) ah) e b ag:=by
 intro c1 q c2 n
 have n1:=fN (ay:=.list []) q
 have m:=fN (ay:=.list []) n
 exact nB _ _ rfl (j _ _ (.mk (m.le _ _ (n1.le _ _ p)) (j _ _ (.mk (gX _ _ _) (h c1 c2 _ _ _ _ n1 m pv pv)))))
theorem Om.upd {l:Nat} {o:AO} (h:Om b q a d l I C r) (u:Upd q ax ak o) (j:a≠ak) (g:l≠ak) (m:I≠ak) (f:ak∉C):Om b ax a d l I C r:=
 ⟨(u.ne a j).trans h.obj,(u.ne l g).trans h.steps,(u.ne I m).trans h.ends,h.len,λi c e=>(u.ne c λk=>f (k▸fi e)).trans (h.dict i c e),h.nd,h.ne,h.fl,h.fe,h.fd⟩
theorem Om.le (h:Om b q a d o I C r) (c:eD q ax):Om b ax a d o I C r:=
 ⟨c _ _ h.obj,c _ _ h.steps,c _ _ h.ends,h.len,λi e I=>c _ _ (h.dict i e I),h.nd,h.ne,h.fl,h.fe,h.fd⟩
structure GO (s0 st:AS) (c2 c3 t dx l e:Nat) (ds:List Nat) (o:List Nat) (S:List (List (Int×Nat))) (es:List Int):Prop where
 le:eD s0 st
 ord:i0 s0 st c2 (.list (o.map sj))
 pl:i0 s0 st c3 (.dict (QN o))
 au:Om s0 st t dx l e ds ⟨S,es⟩
 n1:l≠c2
 n2:e≠c2
 n3:c3∉ds
theorem GO.grow (h:GO b q a d o I ak aI C bT aP a8) (c:eD q ax):GO b ax a d o I ak aI C bT aP a8:=
 ⟨b4 h.le c,h.ord.le c,h.pl.le c,h.au.le c,h.n1,h.n2,h.n3⟩
theorem oj (h:b a=some ay) (c:b a=some cF):ay=cF:=d5 (h.symm.trans c)
theorem GO.goal {l:AS} (h:GO b q a d o I ak aI C bT aP a8) (g:Upd q ax d (.dict (QN (bT++[bc])))) (e:Upd ax l a (.list ((bT++[bc]).map sj))):GO b l a d o I ak aI C (bT++[bc]) aP a8:=by
 have r:d≠a:=λc=>by have:=h.ord.at_;rw [<-c,h.pl.at_] at this;(injection this;contradiction)
 have f:∀{k j},q k=some j->(∀p,j≠.dict p)->k≠d:=λaI s c=>s _ (oj aI (c▸h.pl.at_))
 have t:=h.au.upd g (f h.au.obj (by (repeat intro _);contradiction)) (f h.au.steps (by (repeat intro _);contradiction)) (f h.au.ends (by (repeat intro _);contradiction)) h.n3
 refine ⟨e.le (g.le h.le h.pl.fr) h.ord.fr,e.own h.ord.fr,(g.own h.pl.fr).keep e r,t.upd e (λc=>?_) h.n1 h.n2 (λm=>?_),h.n1,h.n2,h.n3⟩
 .have:=oj h.au.obj (c▸h.ord.at_);contradiction
 .obtain ⟨i,n⟩:=eZ.mp m
  have:=oj (h.au.dict i _ n) h.ord.at_;contradiction
theorem GO.push {j:AS} (h:GO b q a d o I ak aI C bT aP a8) (v:i0 b q bc (.dict (dV aD))) (w:bc∉C/\bc≠d) (u:Upd q ax ak (.list ((C++[bc]).map .ref))) (m:Upd ax j aI (.list ((a8++[p]).map .int))):
 GO b j a d o I ak aI (C++[bc]) bT (aP++[aD]) (a8++[p]):=by
 have y:=m.le (u.le h.le h.au.fl) h.au.fe
 have r:∀c n,q c=some n->c≠ak->c≠aI->j c=some n:=λc n g E B=>(m.ne c B).trans ((u.ne c E).trans g)
 have kd:∀c s,q c=some (.dict s)->j c=some (.dict s):=λc s g=>r c _ g (λe=>by have:=oj g (e▸h.au.steps);contradiction) λe=>by have:=oj g (e▸h.au.ends);contradiction
 refine ⟨y,⟨r _ _ h.ord.at_ h.n1.symm h.n2.symm,h.ord.fr⟩,⟨kd _ _ h.pl.at_,h.pl.fr⟩,⟨r _ _ h.au.obj (λe=>by have:=oj h.au.obj (e▸h.au.steps);contradiction) (λe=>by have:=oj h.au.obj (e▸h.au.ends);contradiction),(m.ne ak h.au.ne).trans u.at_,m.at_,?_,λi l f=>?_,?_,h.au.ne,h.au.fl,h.au.fe,λl A=>?_⟩,h.n1,h.n2,?_⟩
 .rw [bh,h.au.len];show aP.length+1=(aP++[aD]).length;rw [bh];rfl
 .have t:C.length=aP.length:=h.au.len
  show j l=some (.dict (dV ((aP++[aD]).getD i [])))
  rw [ec]
  rcases j' i C.length with k |k
  .rw [eN k] at f
   rw [eN (t▸k),<-ec]
   exact kd _ _ (h.au.dict i l f)
  .rw [fk k] at f
   have x:i -C.length=0:=iZ.mp (gz f)
   rw [x] at f
   (injection f with f;subst f)
   rw [fk (t▸k),<-t,x]
   exact kd _ _ v.at_
 .exact eP.mpr ⟨h.au.nd,eT.mpr ⟨eg,eI⟩,λF D c g e=>w.1 (by rw [<-dt.mp g,<-e];exact D)⟩
 .exact (eF.mp A).elim (h.au.fd l) λe=>by rw [dt.mp e];exact v.fr
 .exact λz=>(eF.mp z).elim h.n3 λe=>w.2 (dt.mp e).symm
theorem GO.side (h:GO b q a d o I ak aI C bT aP a8) (e:i0 b q bc (.dict aC)) (f:bc∉C/\bc≠d) (u:Upd q ax bc ay):GO b ax a d o I ak aI C bT aP a8:=by
 have c:∀{g ay},q g=some ay->(∀aC,ay≠.dict aC)->g≠bc:=λaI c i=>c _ (oj aI (i▸e.at_))
 exact ⟨u.le h.le e.fr,h.ord.keep u (c h.ord.at_ (by (repeat intro _);contradiction)),h.pl.keep u f.2.symm,h.au.upd u (c h.au.obj (by (repeat intro _);contradiction)) (c h.au.steps (by (repeat intro _);contradiction)) (c h.au.ends (by (repeat intro _);contradiction)) f.1,h.n1,h.n2,h.n3⟩
theorem RS (k:Ev i e b g (.int p)) (j:Ev i e b D l) (h:∀c d,sf b d c (.dict [(.int p,l)])->jo PG i ah (e.set a (some (.ref c))) d ag):jo PG i (.cons (.asg a (.dict (.cons g (.cons D .nil)))) ah) e b ag:=
 k _ (j _ (gr [(p,l)] rfl (eT.mpr ⟨eg,eI⟩) (λc f=>h c _ (fN f))))
theorem Br.Nr (b:Br r aq aO C aP a8):C.length<=r.steps.length:=by
 have:=b.nd.length_le_of_subset (l₂:=eQ r.steps.length) λx a=>eU.mpr (b.rep x a).1
 rwa [ff] at this
theorem D' (hA:mY b d r) (G:tS r aq) (hh:F1 r aq 0 (λx=>C.getD x 0) cN) (kD:b o=some (.list (C.map sj))) (kW:C.length=r.steps.length) (h5:∀kB,(r.at kB).length<=5) (Z:r.steps.length<=1000) (hP:∀t y S z A,eD b A->mY A t ⟨S,z⟩->Br r aq (λx=>C.getD x 0) y S z->S.length=y.length->pQ 1 0 S=some y.length->n (.ref t) A):Cl (eE PG (a+5)) (.fn 60) [.ref d,.ref o] b n:=by
 have ku:∀x,x<r.steps.length->C.getD x 0<r.steps.length/\aq (C.getD x 0)=aq x:=λx E=>(hh.rg x (fy _) E).2
 have kG:∀X,X<r.steps.length->C.getD (C.getD X 0) 0=C.getD X 0:=λX Z=>(hh.ok _ X (fy _) (ku X Z).1 (fy _) Z).mpr (ku X Z).2
 have h0:=HQ (C:=C) (a:=0) (kW▸G.ok.pos)
 refine jO [some (.ref d),some (.ref o),none,none,none,none,none,none,none] (df _ _) rfl rfl λk hk R L=>?_
 (injection hk with hk;subst hk)
 refine sF (iJ (ft (a5 rfl) kD d3 h0)) λc2 s1 n1=>RS (ft (a5 rfl) (n1.le _ _ kD) d3 h0) d3 λM s2 n2=>je (g7 d3 gQ (FW (a:=a) λt s3 l3 M3 K=>?_))
 obtain ⟨kl,lo,eo,lT,M3⟩:=M3
 refine PR (o:=t) (I:=6) (ak:=kl) (aS:=[(32,.ref lo),(55,.ref eo)]) (λs=>a5 rfl) M3.obj λl e s4 s5 s6 s7 P O u6 u7=>?_
 have kZ:eD b s5:=b4 n1.le (b4 n2.le (b4 l3 (b4 P.le O.le)))
 have kM:b t=none:=jE (b4 n1.le n2.le) K
 have o3:=l3 _ _ n2.at_
 have I:=l3 _ _ (n2.le _ _ n1.at_)
 have t5:=O.le _ _ (P.le _ _ M3.obj)
 have kp:∀j w,j≠t->s5 j=some w->s7 j=some w:=λj w h1 h2=>(u7.ne j h1).trans ((u6.ne j h1).trans h2)
 have nt:∀{j w},s5 j=some w->(∀X kl lj,w≠.inst X kl lj)->j≠t:=λh1 h2 q=>h2 _ _ _ (oj h1 (q▸t5))
 have q2:=O.le _ _ (P.le _ _ I)
 have q3:=O.le _ _ (P.le _ _ o3)
 have q4:=O.le _ _ P.at_
 have B0:GO b s7 c2 M t kl l e [] [C.getD 0 0] [] []:=
  ⟨u7.le (u6.le kZ kM) kM,⟨kp _ _ (nt q2 (by (repeat intro _);contradiction)) q2,n1.fr⟩,⟨kp _ _ (nt q3 (by (repeat intro _);contradiction)) q3,jE n1.le n2.fr⟩,⟨u7.at_,kp _ _ (nt q4 (by (repeat intro _);contradiction)) q4,kp _ _ (nt O.at_ (by (repeat intro _);contradiction)) O.at_,rfl,(by intros;contradiction),eI,O.ne P.at_,jE (b4 n1.le (b4 n2.le l3)) P.fr,jE (b4 n1.le (b4 n2.le (b4 l3 P.le))) O.fr,(by intros;contradiction)⟩,(P.ne I).symm,(O.ne (P.le _ _ I)).symm,eg⟩
 have b0:Br r aq (λx=>C.getD x 0) [C.getD 0 0] [] []:=
  ⟨rfl,eT.mpr ⟨eg,eI⟩,λx E=>by rw [dt.mp E];exact ⟨(ku 0 G.ok.pos).1,(kG 0 G.ok.pos),[],(by rw [tB];exact (ku 0 G.ok.pos).2),(.inl rfl)⟩,fy _,(by intros;contradiction),rfl⟩
 obtain ⟨lV,la,ea,lQ,km⟩:=id hA
 refine oN r.steps.length (λN m A=>∃y S z U,N=r.steps.length -S.length/\GO b A c2 M t kl l e U y S z/\Br r aq (λx=>C.getD x 0) y S z/\pQ 1 0 S=some y.length/\∃w5 w6 w7 w8,m=[some (.ref d),some (.ref o),some (.ref c2),some (.ref M),some (.ref t),w5,w6,w7,w8])
  (De _ _ _ _ (Dd rfl B0 b0 rfl (De _ _ _ _ rfl))) ?_
 intro N m A lA K' lJ;refine G6 lA λy S z U lL=>qk lL λkY B j ho lM=>G6 lM λw5 w6 w7 w8 lg=>?_;subst kY;subst lg
 have kF:=j.Nr
 have ky:U.length=S.length:=B.au.len
 refine ej _ (pw (f' (fV (jd (eO (a5 rfl) B.au.obj rfl) (f9 B.au.steps)) (jd (a5 rfl) (f9 B.ord.at_)) (n_ rfl)))) (λlU l2=>⟨λK=>?_,λK=>?_⟩)
 .have kT:S.length<y.length:=by
   have K:=of_decide_eq_true K
   rw [bb,bb,ky] at K
   exact h9.mp K
  have B:=B.grow l2
  obtain ⟨x,E⟩:∃x,y[S.length]? =some x:=oK _ (dj kT)
  have lz:=fi E
  refine Dj (j.rep x lz) λkx lR u lC lS=>?_
  have lu:(y.map sj)[(U.map AV.ref).length]? =some (.int x):=by rw [bb,ky,ee,E];rfl
  refine g9 (ft (a5 rfl) B.ord.at_ (jd (eO (a5 rfl) B.au.obj rfl) (f9 B.au.steps)) lu) (zj λc6 s8 n8=>?_)
  have h6:c6∉U/\c6≠M:=⟨λW=>by
   refine j_ (eZ.mp W) λkB hi=>?_
   exact n8.ne (B.au.dict kB _ hi) rfl,(n8.ne B.pl.at_).symm⟩
  have H:i0 b s8 c6 (.dict (dV [])):=n8.own B.le
  have B:=B.grow n8.le
  refine eS (km.dict kx) λdd kI kN=>?_
  have lN:∀s:List (Int×Nat),(dV s).map (·.1)=(s.map (·.1)).map AV.int:=λs=>by unfold dV;rw [et,et];rfl
  have kU:((r.at x).map (·.1)).length<=5:=by rw [bb];exact h5 x
  refine q_ (gy d3 (iJ (ft (eO (a5 rfl) (B.le _ _ km.obj) rfl) (B.le _ _ km.steps) (a5 rfl) kI)) (sI (a:=a+3) (λQ hQ=>q7 (B.le _ _ kN) (nP _) Q (by rw [lN];exact hQ)) kU)) λv s9 l9 hv=>?_
  refine jj v hv λV kn=>?_
  have k2:V≠c2:=λq=>by have:=kn.fr;rw [q,B.ord.at_] at this;contradiction
  have B:=B.grow l9
  have H:=H.le l9
  have k3:V≠M:=λq=>by have:=oj kn.at_ (q▸B.pl.at_);contradiction
  have k6:V≠c6:=λq=>by have:=oj kn.at_ (q▸H.at_);contradiction
  refine iG (.list V ((sortI ((r.at x).map yX)).map .int)) (sortI ((r.at x).map yX)) .int (λQ=>gI kn.at_) (λD m A=>∃w s,GO b A c2 M t kl l e U w S z/\Br r aq (λx=>C.getD x 0) w S z/\w[S.length]? =some x/\F4 r (λx=>C.getD x 0) w x D s/\i0 b A c6 (.dict (dV s))/\nR S.length y.length (s.map (·.2))=some w.length/\A V=some (.list ((sortI ((r.at x).map (·.1))).map .int))/\∃w7 w8,m=[some (.ref d),some (.ref o),some (.ref c2),some (.ref M),some (.ref t),some (.int x),some (.ref c6),w7,w8])
   (OI y [] (Cd B j E ⟨rfl,(by intros;contradiction)⟩ H rfl kn.at_ (OI _ _ rfl))) (λD m A zf=>qW zf λ_ _ lP=>Cc lP λ_ _ _ _ _ _ h _=>h) ?_ ?_
  .intro D g r' m lH hD lG K2 lq;refine qW lG λw s lx=>yZ m lx λB j E L H kq kz w7 w8=>?_
   have hg:=ip.mp (mid hD)
   have kH:=(G.tE kx).mp hg
   refine gj (G.qO kx kH) λcc h1 h2 h3=>?_
   have kC:=ku cc h3
   have kK:=gz E
   have Vr:c6≠c2:=λq=>by have:=oj H.at_ (q▸B.ord.at_);contradiction
   have lD:g∉D:=λW=>by
    have:=(sortI_perm _).symm.nodup (G.ok.rO x)
    rw [hD,eP] at this
    exact this.2.2 g W g (.head _) rfl
   refine ej _ rfl (g9 (ft (a5 rfl) (B.le _ _ kD) (sa (ft (eO (a5 rfl) (B.le _ _ km.obj) rfl) (B.le _ _ km.steps) (a5 rfl) kI) (B.le _ _ kN) (a5 rfl) (.inl ⟨⟨_,rfl⟩,nP _⟩) (rL h1)) (HQ (kW▸h3))) ?_)
   refine yB (λm A=>∃I F,GO b A c2 M t kl l e U I S z/\Br r aq (λx=>C.getD x 0) I S z/\I[S.length]? =some x/\F4 r (λx=>C.getD x 0) I x D s/\i0 b A c6 (.dict (dV s))/\nR S.length y.length (s.map (·.2)++[F])=some I.length/\I[F]? =some (C.getD cc 0)/\A V=some (.list ((sortI ((r.at x).map (·.1))).map .int))/\m=[some (.ref d),some (.ref o),some (.ref c2),some (.ref M),some (.ref t),some (.int x),some (.ref c6),some (.int g),some (.int (C.getD cc 0:Nat))])
    (λK3 kX=>yC (D8 (aw:=decide (C.getD cc 0∈w)) (a5 rfl) (a5 rfl) B.pl.at_ (.inl ⟨(oK _ rfl),D9 _⟩) (decide_eq_true_iff.trans F5.symm) _ ?_)) ?_
   .have kO:∀F,F<=w.length->nR S.length y.length (s.map (·.2)++[F])=some (max w.length (F+1)):=λF Y=>by
     rw [F2,kq]
     exact if_neg λq=>q.elim (λq=>iY.mpr q kK) λq=>iY.mpr Y q
    by_cases W:C.getD cc 0∈w
    .rw [decide_eq_true W]
     refine j_ (eZ.mp W) λF Y=>?_
     exact kX _ _ ⟨w,F,B,j,E,L,H,(by rw [kO F (eA (gz Y)),BL (gz Y)]),Y,kz,rfl⟩
    .rw [decide_eq_false W]
     refine wx (jd (a5 rfl) (f9 B.ord.at_)) (a5 rfl) B.pl.at_ (a5 rfl) (.inl ⟨(oK _ rfl),D9 _⟩) ?_ λkP J=>?_
     .unfold QN;rw [xW]
      exact c_ (a_ j.Nr Z) (by unfold fF;decide)
     rw [jZ (λq=>W (F5.mp q)),bb,<-Nq] at J
     have lO:c2≠M:=λq=>by have:=oj B.ord.at_ (q▸B.pl.at_);contradiction
     refine qC (a5 rfl) ((J.ne c2 lO).trans B.ord.at_) ?_ (a5 rfl) λkV T=>kX _ _ ⟨(w++[C.getD cc 0]),w.length,(B.goal J (by rw [b_];exact T)),(j.more W ⟨kC.1,kG cc h3,u++[g],?_,.inr ?_⟩),(by rw [eN kK];exact E),(L.more _),((H.keep J h6.2).keep T Vr),(by rw [kO _ (eJ _),bh];exact congrArg some (Ab (vZ _))),jz,((T.ne V k2).trans ((J.ne V k3).trans kz)),rfl⟩
     .rw [bb];exact c_ (a_ j.Nr Z) (by unfold fF;decide)
     .rw [<-tC,<-lC];exact kC.2.trans h2
     .rw [kC.2,h2];exact kH
   .intro m kP lF;refine qW lF λI F lE=>G5 m lE λB j E L H kq Y kz=>?_
    refine wx (sa (a5 rfl) B.pl.at_ (a5 rfl) (.inl ⟨(oK _ rfl),D9 _⟩) (Jd Y)) (a5 rfl) H.at_ (a5 rfl) (.inl ⟨(oK _ rfl),nP _⟩) ?_ λkV T=>lq _ _ (OI I (s++[(g,F)]) (Cd (B.side H h6 T) j E ⟨?_,λp hp=>?_⟩ ?_ ?_ ((T.ne V k6).trans kz) (OI _ _ rfl)))
    .unfold dV;rw [bb,<-bb (f:=(·.1)),L.keys]
     have:D.length<=5:=by
      have h:=congrArg fj hD
      rw [(sortI_perm _).length_eq,bh] at h
      exact a_ (eh _ _) (h▸kU)
     exact rC this
    .rw [b_,L.keys];rfl
    .rcases eF.mp hp with hp |hp
     .exact L.to p hp
     .rw [dt.mp hp];exact ej cc h1 Y
    .have:=T.own (s0:=b) H.fr
     rw [jZ (λq=>lD (by rw [<-L.keys];exact DZ.mp q))] at this
     rw [show dV (s++[(g,F)])=dV s++[(.int g,.int F)] from b_ ..]
     exact this
    .rw [b_];exact kq
  .intro m lH lh;refine qW lh λw s lr=>yZ m lr λB j E L H kq _ w7 w8=>?_
   have hT:r.steps.length<=1000:=Z
   have kF:=j.Nr
   have kJ:S.length<fF:=c_ (a_ j.le (a_ kF Z)) (by unfold fF;decide)
   have lB:z.length=S.length:=by rw [j.es,bb,fS,j3 j.le]
   refine qC (eO (a5 rfl) B.au.obj rfl) B.au.steps (by rw [bb,ky];exact kJ) (a5 rfl) λkP J=>?_
   have kQ:=J.le B.le B.au.fl
   have lI:=(J.ne t λq=>by have:=oj B.au.obj (q▸B.au.steps);contradiction).trans B.au.obj
   have ly:=(J.ne e B.au.ne.symm).trans B.au.ends
   refine qC (eO (a5 rfl) lI rfl) ly (by rw [bb];show z.length<_;rw [lB];exact kJ) (ft (eO (a5 rfl) (kQ _ _ km.obj) rfl) (kQ _ _ km.ends) (a5 rfl) (vk G.ok kx)) λkV T=>?_
   have e1:U.map AV.ref++[.ref c6]=(U++[c6]).map .ref:=by rw [b_];rfl
   have e2:z.map AV.int++[.int (r.end x)]=(z++[r.end x]).map .int:=by rw [b_];rfl
   rw [e1] at J
   rw [e2] at T
   have lK:(S++[s]).length=S.length+1:=bh ..
   refine lJ _ _ _ ?_ (De w (S++[s]) (z++[r.end x]) (U++[c6]) (Dd rfl (B.push H h6 J T) (j.push E L) ?_ (De _ _ _ _ rfl)))
   .have:=ei kT (a_ (gv rfl) ‹y.length<=r.steps.length›)
    rw [lK]
    exact i3 this (fH _)
   .rw [F3,ho]
    show nR (0+S.length) y.length _=_
    rw [iW];exact kq
 .have B:=B.grow l2
  refine iM (a5 rfl) (L _ _ _ B.le (hP t y S z _ B.le ⟨_,_,_,_,B.au.au⟩ j (ir j.le ?_) ho))
  have K:=of_decide_eq_false K
  rw [bb,bb,ky] at K
  exact gS.mp (nr.mp K)
noncomputable def Oq (ks:List Int):List (AV×AV):=ks.map λg=>(.int g,.bool true)
theorem Bh (a:List Int):(Oq a).map (·.1)=a.map .int:=by unfold Oq;rw [et];rfl
theorem Je (b:List Int):IntKeys (Oq b):=λp a=>by
 refine iQ p (ck.mp a) λg _=>?_;exact ⟨g,rfl⟩
theorem PT (b:List Int) (a:Int):dictPut (Oq b) (.int a) (.bool true)=Oq (if a∈b then b else b++[a]):=by
 by_cases h:a∈b
 .rw [if_pos h]
  have d:AV.int a∈(Oq b).map (·.1):=by rw [Bh,qH];exact h
  refine (if_pos d).trans ((fm (g:=id) λp c=>?_).trans (Ia _))
  refine iQ p (ck.mp c) λx _=>?_
  by_cases e:AV.int x=AV.int a
  .exact (if_pos e).trans (by rw [<-e];rfl)
  .exact if_neg e
 .rw [if_neg h,jZ (by rw [Bh,qH];exact h)]
  unfold Oq;rw [b_];rfl
noncomputable def RT (A:Au):Prop:=∀i,DY ((A.at i).map (·.1))
theorem xM (b:a8.Nodup) (h:DY a8):a8.length<=5:=by
 refine b.length_le_of_subset (l₂:=[1,2,3,4,5]) λg a=>?_
 have:=h g a
 simp only [eK,eg,or_false]
 (first |exact five_n this |exact Dm this)
noncomputable def mZ (A:Au) (g:Int):g_:=(eQ A.steps.length).map λn=>FC (A.step n g)
theorem Nt (b:a<r.steps.length):(mZ r p)[a]? =some (FC (r.step a p)):=by
 unfold mZ;rw [ee,ju b];rfl
theorem Nu:∀(a D:List (AV×AV)),((D++a).map (·.1)).Nodup->a.foldl (λd p=>dictPut d p.1 p.2) D=D++a:=by
 intro e
 induction e with
 |nil=>
  intro D _
  exact (eR D).symm
 |cons p a b=>
  intro D h
  have c:p.1∉D.map (·.1):=λq=>by
   rw [b_,eP] at h
   exact h.2.2 _ q p.1 (.head _) rfl
  show a.foldl _ (dictPut D p.1 p.2)=_
  rw [jZ c,b (D++[(p.1,p.2)]) (by rw [eC];exact h),eC];rfl
theorem PU {d:List (Int×AV)} (w:Al (eE PG (a+1)) e b g (gO b (d.map λp=>.tup [.int p.1,p.2]))) (s:(d.map (·.1)).Nodup) (f:∀c i,eD b i->i0 b i c (.dict (d.map λp=>(.int p.1,p.2)))->n (.ref c) i):Al (eE PG (a+1)) e b (.call (.cst (.bi 6)) (.cons g .nil)) n:=
 xA w λv z k m=>by
  refine jj v m λc r=>?_
  refine λQ l=>jI (.mk (.mk r.at_ ?_))
  refine gr (d.map λp=>(.int p.1,p.2)) (by rw [et];rfl) (λp f=>?_) (λc2 u=>?_)
  .refine iQ p (ck.mp f) λq _=>?_;exact oK q.1 rfl
  .have t:(([]++d.map λp:Int×AV=>(AV.int p.1,p.2)).map λq:AV×AV=>q.1).Nodup:=by
    rw [BB,et]
    have:=B_ (R:=(·≠·)) (S:=(·≠·)) AV.int (λx y h q=>h (AV.int.inj q)) s
    rwa [et] at this
   rw [Nu _ _ t]
   have j:=fN (ay:=.dict (d.map λp=>(.int p.1,p.2))) u
   exact l _ _ j.le (f c2 _ (b4 k j.le) (j.own k))
theorem uS (h:mY b d r) (f:e[o]? =some (some (.ref d))):Ev (eE PG (a+4)) e b (.fM (.var o) 9 .nil) (.int r.steps.length):=λQ c=>by
 obtain ⟨j,l,k,i,g⟩:=id h
 exact jr (a5 f) g.obj rfl rfl rfl gQ (sE (df 4 _) h c)
theorem PV (p:Nat->AV) (r:d<=fF) (x:Ev (eE PG (a+1)) e b D (.int d)) (l:∀i,i<d->∀f,eD b f->∃q,jN C (.int (i:Nat)) (bz.map λc=>c.bind λj=>(e[j]?).join)=some q/\Al (eE PG (a+1)) q f g λv _=>v=p i):
 Al (eE PG (a+1)) e b (.comp bz g C (.call (.cst (.bi 4)) (.cons D .nil)) .nil .nil) (gO b ((eQ d).map p)):=by
 have:=tw (i:=eE PG (a+1)) (b:=b) (e:=e) (bz:=bz) (g:=g) (ar:=.nil) (C:=C) (λ_=>true) p (eQ d) (λd=>.int (d:Nat)) (by rw [ff];exact r) (n:=λv _=>v= .pU 0 d 1) (gy d3 (iJ x) λQ t=>tA (a:=a) (a_ r (by unfold fF;decide)) (t _ _ (ed _) rfl)) (λv y _ D=>(ej .pU (λ_ _=>trivial) (by rw [D];exact λQ=>p4)))
  λi o f k=>gr (l i (eU.mp o) f k).choose (l i (eU.mp o) f k).choose_spec.1 xB (λ_ u w=>?_)
 .rwa [jv.mpr λ_ _=>rfl] at this
 .refine eS (l i (eU.mp o) u (b4 k w)) λq s h=>?_
  rw [(l i (eU.mp o) f k).choose_spec.1] at s
  cases d5 s;exact h
theorem D_ (h:mY b d r) (hO:r.Ok) (hG:RT r) (hc:r.steps.length<=1000) (hP:∀c f w,eD b w->f.Nodup->(∀g,g∈f↔∃i,g∈(r.at i).map (·.1))->i0 b w c (.dict ((sortI f).map λg=>(.int g,tI (mZ r g))))->n (.ref c) w):Cl (eE PG (a+6)) (.fn 63) [.ref d] b n:=by
 refine jO [some (.ref d),none,none,none] (df _ _) rfl rfl λk t R hR=>?_
 (injection t with t;subst t)
 obtain ⟨dx,l,e,ds,H⟩:=id h
 have ku:=H.AP.length
 have kq:∀s:List (Int×Nat),(dV s).map (·.1)=s.map λp=>AV.int p.1:=λs=>by unfold dV;rw [et];rfl
 refine zj λc s1 n1=>oS (eO (a5 rfl) (n1.le _ _ H.obj) rfl) (iG (.list l _) ds .ref (λQ=>gI (n1.le _ _ H.steps)) (λA m w=>eD b w/\(∃f,i0 b w c (.dict (Oq f))/\f.Nodup/\DY f/\∀g,g∈f↔∃i,i<A.length/\g∈(r.at i).map (·.1))/\∃V C,m=[some (.ref d),some (.ref c),V,C])
  (qT n1.le ⟨[],n1.own (ed _),eI,(by (repeat intro _);contradiction),λg=>⟨(by intros;contradiction),λz=>eS z λi h _=>absurd h (o_ i)⟩⟩ _ _ rfl) (λ_ _ _ S=>S.1 _ _ H.steps) ?_ ?_)
 .intro A y r' m s2 hd kD K hK;refine rY m kD λE B V C=>?_;refine rZ B λf o j u t=>?_
  have W:ds[A.length]? =some y:=by rw [hd];simp
  have kz:A.length<r.steps.length:=ku▸gz W
  refine eS (H.AP.get (yv kz)) λy' kl km=>?_
  rw [W] at kl;obtain rfl:=d5 kl
  refine ⟨_,rfl,oS (a5 rfl) (iG (.dict y _) (r.at A.length) (λp=>.int p.1) (λQ I=>vj (E _ _ km) (nP _) (by rw [kq];exact I)) (λD m w=>eD b w/\(∃f,i0 b w c (.dict (Oq f))/\f.Nodup/\DY f/\∀g,g∈f↔(∃i,i<A.length/\g∈(r.at i).map (·.1))\/g∈D.map (·.1))/\∃C,m=[some (.ref d),some (.ref c),some (.ref y),C])
   ⟨E,⟨f,o,j,u,λg=>(t g).trans ⟨.inl,λh=>h.elim id (by intros;contradiction)⟩⟩,_,rfl⟩ (λ_ _ _ S=>(ej _ (S.1 _ _ km) (kq _))) ?_ ?_)⟩
  .intro D p r2 m F hD kx K2 kC;refine Ll m kx λG B C=>?_;refine rZ B λf o j u t=>?_
   have ky:=hG A.length p.1 (fE (mid hD))
   refine ej _ rfl (wx d3 (a5 rfl) o.at_ (a5 rfl) (.inl ⟨⟨_,rfl⟩,Je _⟩) (by unfold Oq;rw [bb];exact rC (xM j u)) λs4 Y=>kC _ _ ⟨Y.le G o.fr,⟨if p.1∈f then f else f++[p.1],?_,?_,?_,λg=>?_⟩,_,rfl⟩)
   .rw [<-PT];exact Y.own o.fr
   .split
    .exact j
    .rename_i O
     exact eP.mpr (iz j (eT.mpr ⟨eg,eI⟩) (λd ha kG hb q=>O (by rw [<-dt.mp hb,<-q];exact ha)))
   .split
    .exact u
    .exact λg J=>(eF.mp J).elim (u g) λh=>by rw [dt.mp h];exact ky
   .rw [b_,eF,<-or_assoc,<-t g]
    have hs:g∈[p].map (·.1)↔g=p.1:=dt
    rw [hs]
    split
    .rename_i O;exact ⟨.inl,λh=>h.elim id λh=>h▸O⟩
    .rw [eF,dt]
  .intro m F kF;refine Ll m kF λG B C=>?_;refine rZ B λf o j u t=>?_
   refine hK _ _ (qT G ⟨f,o,j,u,λg=>(t g).trans ⟨λh=>?_,λz=>eS z λi N J=>?_⟩⟩ _ _ rfl)
   .rw [bh]
    exact h.elim (λz=>eS z λi U h2=>(ej i (jq U) h2)) λh=>ej A.length (fH _) h
   .rw [bh] at N
    rcases ED.mp N with U |rfl
    .exact .inl (ej i U J)
    .exact .inr J
 .intro m s2 kB;refine rY m kB λE B V C=>?_;refine rZ B λf o j u t=>?_
  have kn:=xM j u
  refine sg (PU (a:=a+4) (d:=(sortI f).map λg=>(g,tI (mZ r g))) (qo (xC (λg=>.tup [.int g,tI (mZ r g)]) (eA (rC (by rw [(sortI_perm _).length_eq];exact kn))) (gy d3 (iJ (a5 rfl)) (sI (a:=a+4) (λQ I=>q7 o.at_ (Je _) Q (by rw [Bh];exact I)) kn)) λg J F L=>(ej [none,some (.int g),some (.ref d)] rfl (IZ (a5 rfl) (p3 (a:=a+4) (n:=λv _=>v=tI (mZ r g)) (j:=(mZ r g).map .int) ?_ λ_ _=>rfl)))) λv F _ M=>?_) ?_ (n:=n) λc2 F L T=>hP c2 f F (b4 E L) j (λg=>(t g).trans ⟨λz=>eS z λi _ h=>⟨i,h⟩,λz=>j_ z λi h=>?_⟩) ?_) λv F L M=>hR _ _ _ (b4 E L) M
  .have G:=b4 E L
   have X:=h.le G
   refine qo (PV (a:=a+4) (λi=>.int (FC (r.step i g))) (a_ hc (by unfold fF;decide)) (uS (a:=a+1) X rfl) λi N s4 Z=>(ej [none,some (.int i),some (.int g),some (.ref d)] rfl (λQ I=>jr (a5 rfl) (Z _ _ (G _ _ H.obj)) rfl rfl rfl (iL (a5 rfl) (a5 rfl)) (yw (df 3 _) (X.le Z) N (I _ _ (ed _) rfl))))) λv s4 _ M=>?_
   rw [show (mZ r g).map AV.int=_ from et ..];exact M
  .rw [et];exact M
  .rw [et,show ((λx:Int×AV=>x.1)∘λg=>(g,tI (mZ r g)))=id from rfl,Ia]
   exact (sortI_perm f).symm.nodup j
  .refine eS (ck.mp h) λp hp _=>?_
   exact ej i (ku▸(wu hp).1) h
  .rw [et] at T;exact ⟨T.at_,jE E T.fr⟩
structure F6 (st:AS) (tb dx ca rw en:Nat) (rs:List Nat) (A:Au) (s:List (Int×Nat)) (C:List g_):Prop where
 obj:st tb=some (.inst 8 dx [(33,.ref ca),(58,.ref rw),(55,.ref en)])
 cls:zi st ca s
 rows:st rw=some (.list (rs.map .ref))
 len:rs.length=A.steps.length
 row:∀(i:Nat) r,rs[i]? =some r->st r=some (.list (C.map λc=>.int (c.getD i (-1))))
 ends:st en=some (.list (A.ends.map .int))
 col:∀g,C[(s.lookup g).getD 0]? =some (mZ A g)
inductive F7 (st:AS) (tb:Nat) (A:Au) (s:List (Int×Nat)) (C:List g_):Prop where
 |mk (dx ca rw en:Nat) (rs:List Nat) (h0:F6 st tb dx ca rw en rs A s C):F7 st tb A s C
variable {aM:List g_}
theorem F6.le (h:F6 b a d o I ak C r aD aM) (c:eD b q):F6 q a d o I ak C r aD aM:=⟨c _ _ h.obj,h.cls.le c,c _ _ h.rows,h.len,λi f e=>c _ _ (h.row i f e),c _ _ h.ends,h.col⟩
theorem PW {st:AS} {n:Nat} {Q:AV->AS->Prop} {A:Au} {s:List (Int×Nat)} {C:List g_} {tb dx ca rw en k:Nat} {rs:List Nat} {g:Int} (h:F6 st tb dx ca rw en rs A s C) (hk:k<A.steps.length) (hQ:Q (.int (FC (A.step k g))) st):eE PG (n+5) (.fn 62) [.ref tb,.int k,.int g] st Q:=by
 obtain ⟨dxc,d,hc,hd⟩:=id h.cls
 have hk':k<rs.length:=h.len▸hk
 have hr:=dj hk'
 have hcl:Ev (eE PG (n+4)) [some (.ref tb),some (.int k),some (.int g)] st (.fM (.attr (.var 0) 33) 4 (.cons (.var 2) .nil)) (.int (((s.lookup g).getD 0:Nat))):=λQ hQ=>jr (eO (a5 rfl) h.obj rfl) hc rfl rfl rfl (iJ (a5 rfl)) (sd (df 3 _) h.cls hQ)
 refine gP [some (.ref tb),some (.int k),some (.int g)] (df 2 _) rfl rfl (iM (ft (ft (eO (a5 rfl) h.obj rfl) h.rows (a5 rfl) (by rw [ee,hr];rfl)) (h.row k _ hr) hcl (by rw [ee,h.col g];rfl)) (ej _ (ed _) ?_))
 show Q (.int ((mZ A g).getD k (-1))) st
 rw [ec,Nt hk];exact hQ
theorem o6 (h:r.step a p=some d):iC r a o dg (p::a8)=iC r d (o+1) (if r.end d= -1 then dg else (o+1,r.end d)) a8:=by
 show (match r.step a p with |none=>dg |some d=>iC r d (o+1) (if r.end d= -1 then dg else (o+1,r.end d)) a8)=_
 rw [h]
theorem nS (h:r.step a p=none):iC r a d dg (p::a8)=dg:=by
 show (match r.step a p with |none=>dg |some t=>iC r t (d+1) (if r.end t= -1 then dg else (d+1,r.end t)) a8)=_
 rw [h]
theorem F8 (A:Au):∀(r:List Int) (k a x:Nat) (b:Nat×Int),iC A k a b r=if (iC A k a (x,-1) r).2= -1 then b else iC A k a (x,-1) r:=by
 intro i
 induction i with
 |nil=>
  intro _ _ _ _
  exact (if_pos rfl).symm
 |cons g r e=>
  intro k a x b
  induction c:A.step k g with
  |none=>rw [nS c,nS c];exact (if_pos rfl).symm
  |some t=>
   rw [o6 c,o6 c]
   by_cases h:A.end t= -1
   .simp only [if_pos h];exact e t _ x b
   .simp only [if_neg h]
    have f:∀p:Nat×Int,(if p.2= -1 then ((a+1,A.end t):Nat×Int) else p).2≠-1:=λp=>by
     by_cases d:p.2= -1
     .rw [if_pos d];exact h
     .rw [if_neg d];exact d
    have:=e t (a+1) 0 (a+1,A.end t)
    exact (if_neg (by rw [this];exact f _)).symm
theorem Km (A:Au) (c:Nat) (a:0<a8.length):iC A 0 c (c+1,a8.headD 0) a8=(c+(fY [A] a8).1,(fY [A] a8).2):=by
 rw [F8 A a8 0 c c,CK,qN]
 by_cases h:(j6 A a8).2= -1
 .rw [if_pos h,if_pos h]
 .rw [if_neg h,if_neg h]
theorem zH (E:F7 b d r aD aM) (I:r.Ok) (l:b o=some (.list (a8.map .int))) (hl:a8.length<=10000):Cl (eE PG (a+6)) (.fn 65) [.ref d,.ref o] b (gO b ((iF (fY [r]) a8.length a8).map .int)):=by
 obtain ⟨dx,ca,rw,en,rs,E⟩:=E
 refine jO [some (.ref d),some (.ref o),none,none,none,none,none,none] (df _ _) rfl rfl λk D R hR=>?_
 (injection D with D;subst D)
 refine sF gQ λc s1 n1=>g9 d3 (oN a8.length (λN m B=>∃(p:Nat) (A:List Int) (z v w y:Option AV),m=[some (.ref d),some (.ref o),some (.ref c),some (.int p),z,v,w,y]/\eD b B/\i0 b B c (.list (A.map .int))/\p<=a8.length/\N=a8.length -p/\A.length<=p/\
  A++iF (fY [r]) (a8.length -p) (a8.drop p)=iF (fY [r]) a8.length a8)
  (uq 0 [] _ _ _ _ (uo rfl n1.le (n1.own (ed _)) (fy _) rfl (eJ _) rfl)) ?_)
 intro N m B kN K hK;refine EI kN λp A z v w y kO=>Ad kO λO X J x S U V=>?_;subst O;subst S
 have km:=X _ _ l
 have Y:∀{m:MM} {b:AS},m[1]? =some (some (.ref o))->b o=some (.list (a8.map .int))->Ev (eE PG (a+5)) m b (.call (.cst (.bi 0)) (.cons (.var 1) .nil)) (.int a8.length):=λhm l=>by
  have:=jd (a:=a+4) (a5 hm) (f9 l)
  rwa [bb] at this
 refine ej _ (pw (f' (fV (a5 rfl) (Y rfl km) (n_ rfl)))) (λkl F=>⟨λj=>?_,λj=>?_⟩)
 .have M:p<a8.length:=h9.mp (of_decide_eq_true j)
  have H:=b4 X F
  have ky:=H _ _ l
  have T:(a8.map AV.int)[p]? =some (.int a8[p]):=by rw [ee,dj M];rfl
  have kJ:a8.drop p=a8[p]::a8.drop (p+1):=fQ M
  have Z:0<(a8.drop p).length:=by rw [ey];exact iX M
  have kx:=Km r p Z
  rw [show (a8.drop p).headD 0=a8[p] by rw [kJ];rfl] at kx
  have h2:=E.le H
  have P:=q8 [r] Z
  generalize hq:fY [r] (a8.drop p)=q at*
  have kz:∀z y s,eD kl s->jo PG (eE PG (a+5)) (.cons (.ex (.fM (.var 2) 0 (.cons (.var 6) .nil))) (.cons (.asg 3 (.var 5)) .nil)) [some (.ref d),some (.ref o),some (.ref c),some (.int p),z,some (.int (p+q.1:Nat)),some (.int q.2),y] s (Lp (eE PG (a+5)) (.cons (.ret (.var 2)) .nil) R K):=λz y s i=>by
   rw [ey] at P
   have kG:p+q.1<=a8.length:=by have:=d7 P.1 p;rwa [rt x] at this
   have kB:p<p+q.1:=gk P.2
   refine qC (a5 rfl) (i _ _ (F _ _ J.at_)) (by rw [bb];exact c_ (a_ U (a_ x hl)) (by unfold fF;decide)) (a5 rfl) λkQ u3=>g9 (a5 rfl) (hK _ _ _ ?_ (uq (p+q.1) (A++[q.2]) _ _ _ _ (uo rfl (u3.le (b4 H i) J.fr) ?_ kG rfl ?_ ?_)))
   .exact i3 M kB
   .rw [b_];exact u3.own J.fr
   .rw [bh];exact a_ (fh U) kB
   .have e1:=sM _ (p7 r) Z
    rw [ey,hq,ig,ey] at e1
    rw [eC,<-V,e1];rfl
  refine q9 (g6 (vD d3 (ia (a5 rfl) d3 rfl) (ft (a5 rfl) ky (a5 rfl) T))) rfl (by decide) (g9 (a5 rfl) ?_)
  refine oN (a8.length -p) (λN m B=>eD kl B/\∃(k e:Nat) (g:Nat×Int),m=[some (.ref d),some (.ref o),some (.ref c),some (.int p),some (.int k),some (.int g.1),some (.int g.2),some (.int e)]/\k<r.steps.length/\e<=a8.length/\N=a8.length -e/\iC r k e g (a8.drop e)=(p+q.1,q.2))
   (Lj (ed _) 0 p (p+1,a8[p]) (Dd rfl I.pos x rfl kx)) ?_
  intro N m kP kD K2 kI;refine Q4 kD λW k e g kM=>qk kM λO D kH S f=>?_;subst O;subst S
  refine ej _ (pw (f' (fV (a5 rfl) (Y rfl (W _ _ ky)) (n_ rfl)))) (λs i=>⟨λj=>?_,λj=>?_⟩)
  .have i:=b4 W i
   have L:e<a8.length:=h9.mp (of_decide_eq_true j)
   have ku:=b4 H i
   have G:=E.le ku
   have T:(a8.map AV.int)[e]? =some (.int a8[e]):=by rw [ee,dj L];rfl
   rw [fQ L] at f
   refine g9 (λQ hQ=>jr (a5 rfl) G.obj rfl rfl rfl (iL (a5 rfl) (ft (a5 rfl) (ku _ _ l) (a5 rfl) T)) (PW (n:=a) G D hQ)) ?_
   refine ki (f' (fV (a5 rfl) d3 (eq_int rfl))) (λC=>?_) λC=>?_
   .induction u:r.step k a8[e] using d_ with
    |some t=>
     rw [u] at C
     have:((t:Nat):Int)= -1:=of_decide_eq_true C
     exact (JA this.symm).elim
    |none=>
     rw [nS u] at f
     subst f
     exact QF (kz _ _ _ i)
   .induction u:r.step k a8[e] using d_ with
    |none=>rw [u] at C;exact absurd C (by decide)
    |some t=>
     rw [o6 u] at f
     have kC:=oa I u
     have kq:∀g:Nat×Int,iC r t (e+1) g (a8.drop (e+1))=(p+q.1,q.2)->K2 [some (.ref d),some (.ref o),some (.ref c),some (.int p),some (.int t),some (.int g.1),some (.int g.2),some (.int (e+1:Nat))] s:=λg f=>kI _ _ _ (i3 L (fH _)) (Lj i t (e+1) g (Dd rfl kC L rfl f))
     have kn:∀v w,Ev (eE PG (a+5)) [some (.ref d),some (.ref o),some (.ref c),some (.int p),some (.int t),v,w,some (.int (e+1:Nat))] s (.sub (.attr (.var 0) 55) (.var 4)) (.int (r.end t)):=λv w=>ft (eO (a5 rfl) G.obj rfl) G.ends (a5 rfl) (vk I kC)
     refine s_end (g9 (ia (a5 rfl) d3 rfl) (ki (f' (fV (kn _ _) d3 (ne_int rfl))) (λh=>?_) λh=>?_))
     .have h:r.end t≠-1:=λq=>by rw [q] at h;exact absurd h (by decide)
      rw [if_neg h] at f
      exact q9 (g6 (iL (a5 rfl) (kn _ _))) rfl (by decide) (kq (e+1,r.end t) f)
     .have h:r.end t= -1:=gh λq=>by rw [decide_eq_false q] at h;exact absurd h (by decide)
      rw [if_pos h] at f
      exact kq g f
  .have kK:e=a8.length:=ir kH (gS.mp (nr.mp (of_decide_eq_false j)))
   rw [kK,ou] at f
   have f:g=(p+q.1,q.2):=f
   subst f
   exact kz _ _ _ (b4 W i)
 .have kF:p=a8.length:=ir x (gS.mp (nr.mp (of_decide_eq_false j)))
  clear I l hl E n1 x hK U km Y j;subst kF
  rw [jB,show iF (fY [r]) 0 (a8.drop a8.length)=[] from rfl,eR] at V
  subst V
  exact iM (a5 rfl) (hR _ _ _ (b4 X F) (ej c rfl (J.le F)))
noncomputable def rQ:Nat->List Nat->Option Nat
 |k,[]=>some k
 |k,t::ts=>if t>k+1 then none else rQ (max k t) ts
theorem Bi (t:Nat):∀(a:List Nat) (k:Nat),rQ k (a++[t])=(rQ k a).bind λb=>if t>b+1 then none else some (max b t):=by
 intro d
 induction d with
 |nil=>
  intro k
  exact rfl
 |cons u a c=>
  intro k
  show (if _ then _ else _)=(if _ then _ else _:Option Nat).bind _
  by_cases h:u>k+1
  .rw [if_pos h,if_pos h];rfl
  .rw [if_neg h,if_neg h];exact c _
noncomputable def QO (D:List g_):List (AV×AV):=D.mapIdx λ(j:Nat) (c:g_)=>(tI c,.int (j+1:Nat))
theorem Nv (D:List g_) (c:g_):QO (D++[c])=QO D++[(tI c,.int (D.length+1:Nat))]:=KR
theorem Jf (h:aM[a]? =some av):(tI av,AV.int (a+1:Nat))∈QO aM:=by
 obtain ⟨b,c⟩:=ew.mp h
 exact o9.mpr ⟨a,b,by rw [c]⟩
theorem F9:tI av∈(QO aM).map (·.1)↔av∈aM:=by
 constructor
 .intro h
  refine eS (ck.mp h) λp b e=>?_
  obtain ⟨i,a,rfl⟩:=o9.mp b
  have:aM[i]=av:=Hx e
  exact this▸fO a
 .intro h
  obtain ⟨t,c⟩:=eZ.mp h
  exact ck.mpr (ej _ (Jf c) rfl)
theorem Ea (c:g_) (D:List g_):ta (tI c) (QO D):=.inr ⟨⟨⟨_,rfl⟩,DX 3 _⟩,λp a=>by
 obtain ⟨i,b,rfl⟩:=o9.mp a;exact ⟨⟨_,rfl⟩,DX 3 _⟩⟩
noncomputable def mL (A:Au):g_:=gm A.steps.length (-1)
structure yH (A:Au) (D:List Int) (Dc:List g_) (s:List (Int×Nat)):Prop where
 keys:s.map (·.1)=D
 nd:Dc.Nodup
 mem:∀c∈Dc,∃g∈D,c=mZ A g
 at_:∀p∈s,∃j,p.2=j+1/\Dc[j]? =some (mZ A p.1)
 num:rQ 0 (s.map (·.2))=some Dc.length
theorem list_list (f:b d=some (.list j)) (h:∀c e,sf b e c (.list j)->n (.ref c) e):eE PG (a+1) (.bi 10) [.ref d] b n:=jI (.mk (.list f λc g=>h c _ (fN g)))
theorem F_ (h:∀c d,sf b d c (.list j)->n (.ref c) d):eE PG (a+1) (.bi 10) [.tup j] b n:=jI (.mk (.tup λc e=>h c _ (fN e)))
theorem Ga (h:VE PG i g e b λd b=>VE PG i D e b λa b=>VE PG i aL e b λc b=>i l [d,a,c] b n):VE PG i (.call (.cst l) (.cons g (.cons D (.cons aL .nil)))) e b n:=h
theorem Eb (h:VE PG i g e b λv b=>j.length<fF/\bL (j++[v]) b):Oi PG i .nil e b λt b=>if t then VG PG i (VE PG i g) .nil e j b bL else bL j b:=h
theorem Jg (h:VE PG i g e b λv b=>∀c,b.free c->n (.ref c) (b.set c (.list [v]))):VE PG i (.lst (.cons g .nil)) e b n:=h
theorem sO (h:∀i,p∉(r.at i).map (·.1)):mZ r p=mL r:=by
 unfold mZ mL
 refine G1.mpr ⟨by rw [bb,ff],λx b=>?_⟩
 refine iQ x (ck.mp b) λi _=>?_
 induction a:r.step i p with
 |none=>rfl
 |some t=>exact absurd (nQ.mp (by rw [show (r.at i).lookup p=some t from a];rfl)) (h i)
theorem yH.same (h:yH r a8 aM aD) (f:aM[a]? =some (mZ r p)):yH r (a8++[p]) aM (aD++[(p,a+1)]) where
 keys:=by rw [b_,h.keys];rfl
 nd:=h.nd
 mem c g:=eS (h.mem c g) λx j e=>(ej x (fR _ j) e)
 at_ i b:=(eF.mp b).elim (h.at_ i) λb=>by rw [dt.mp b];exact ej a rfl f
 num:=by
  have d:=gz f
  rw [b_,show ([(p,a+1)]:List (Int×Nat)).map (·.2)=[a+1] from rfl,Bi,h.num]
  show (if a+1>aM.length+1 then none else some (max aM.length (a+1)))=_
  rw [if_neg (iY.mpr (fZ d)),BL d]
theorem yH.more (h:yH r a8 aM aD) (i:mZ r p∉aM):yH r (a8++[p]) (aM++[mZ r p]) (aD++[(p,aM.length+1)]) where
 keys:=by rw [b_,h.keys];rfl
 nd:=eP.mpr (iz h.nd (eT.mpr ⟨eg,eI⟩) (λa n b m q=>i (by rw [<-dt.mp m,<-q];exact n)))
 mem c f:=(eF.mp f).elim (λf=>eS (h.mem c f) λx k e=>(ej x (fR _ k) e)) λf=>ej p (fT _ (.head _)) (dt.mp f)
 at_ l d:=(eF.mp d).elim (λd=>eS (h.at_ l d) λj e g=>(ej j e (by rw [eN (gz g)];exact g))) λd=>by
  rw [dt.mp d];exact ej aM.length rfl jz
 num:=by
  rw [b_,show ([(p,aM.length+1)]:List (Int×Nat)).map (·.2)=[aM.length+1] from rfl,Bi,h.num,bh]
  show (if aM.length+1>aM.length+1 then none else some (max aM.length (aM.length+1)))=_
  rw [if_neg (jg _),Ab (vZ _)];rfl
theorem yI (h:mY b d r) (hO:r.Ok) (hG:RT r) (C:r.steps.length<=1000) (hP:∀tb x u s w,eD b w->x.Nodup->(∀g,g∈x↔∃i,g∈(r.at i).map (·.1))->yH r (sortI x) u s->F7 w tb r s (mL r::u)->n (.ref tb) w):Cl (eE PG (a+7)) (.fn 64) [.ref d] b n:=by
 refine jO [some (.ref d),none,none,none,none,none,none,none] (df _ _) rfl rfl λk hk R hR=>?_
 (injection hk with hk;subst hk)
 obtain ⟨dx,l,e,ds,hA⟩:=id h
 refine je (g7 d3 (iJ (a5 rfl)) (D_ (a:=a) (n:=λv w=>∃c x,v= .ref c/\eD b w/\x.Nodup/\(∀g,g∈x↔∃i,g∈(r.at i).map (·.1))/\w c=some (.dict ((sortI x).map λg=>(.int g,tI (mZ r g))))) h hO hG C (λc x w W hn hk kY=>⟨c,x,rfl,W,hn,hk,kY.at_⟩) _ ?_))
 intro _ A _ lg;refine gq lg λc1 x B l1 hn kB kz=>?_;subst B
 have lC:DY x:=λg hg=>by refine j_ ((kB g).mp hg) λi z=>?_;exact hG i g z
 have kT:(sortI x).length<=5:=by rw [(sortI_perm _).length_eq];exact xM hn lC
 have kN:(sortI x).Nodup:=(sortI_perm x).symm.nodup hn
 refine zj λc2 s2 N=>zj λT s3 Y=>je (Jg (jJ (yG (sh (iJ d3) λc0 s4 n4=>uS (a:=a+2) (h.le (b4 l1 (b4 N.le (b4 Y.le n4.le)))) rfl _ (mul_list n4.at_ (a_ C (by unfold fF;decide)) (by rw [i9,UE];exact a_ C (by unfold fF;decide)) λc5 s5 n5=>tuple_list (a:=a+5) n5.at_ λc4 lA=>?_)))))
 have L:=fN (ay:=.list [AV.tup (gm r.steps.length [AV.int (-1)]).flatten]) lA
 generalize u_ s5 c4 _=s6 at*
 have hz:AV.tup (gm r.steps.length [AV.int (-1)]).flatten=tI (mL r):=by unfold tI mL;rw [Bg,xV]
 rw [hz] at L
 have kl:eD s2 s5:=b4 Y.le (b4 n4.le n5.le)
 have kQ:eD s3 s5:=b4 n4.le n5.le
 have kO:eD A s6:=b4 N.le (b4 kl L.le)
 have kI:=Y.ne N.at_
 have kU:=L.ne (kl _ _ N.at_)
 have kM:=L.ne (kQ _ _ Y.at_)
 have kK:((sortI x).map λg=>(AV.int g,tI (mZ r g))).map (·.1)=(sortI x).map .int:=by rw [et];rfl
 have kD:IntKeys ((sortI x).map λg=>(AV.int g,tI (mZ r g))):=λp hp=>by refine iQ p (ck.mp hp) λg _=>?_;exact oK g rfl
 refine oS (a5 rfl) (iG (.dict c1 _) (sortI x) .int (λQ hQ=>vj (kO _ _ kz) kD (by rw [kK];exact hQ)) (λD m w=>eD A w/\(∃u s,i0 A w c2 (.dict (QO u))/\i0 A w T (.dict (dV s))/\i0 A w c4 (.list ((mL r::u).map tI))/\u.length<=D.length/\yH r D u s)/\∃w5 w6,m=[some (.ref d),some (.ref c1),some (.ref c2),some (.ref T),some (.ref c4),w5,w6,none])
  (qT kO ⟨[],[],⟨L.le _ _ (kl _ _ N.at_),N.fr⟩,⟨L.le _ _ (kQ _ _ Y.at_),jE N.le Y.fr⟩,⟨L.at_,jE (b4 N.le kl) L.fr⟩,eJ _,⟨rfl,eI,(by intros;contradiction),(by intros;contradiction),rfl⟩⟩ _ _ rfl) (λD m w h'=>(ej _ (h'.1 _ _ kz) kK)) ?_ ?_)
 .intro D g r' m s7 hD lz K hK;refine rY m lz λX B w5 w6=>?_;refine gq B λu s F J G M E=>?_
  have kx:D.length<5:=ei (by rw [hD,bh,e_];exact gk (fB _)) kT
  have lu:=mid hD
  have lj:g∉D:=λS=>by
   rw [hD,eP] at kN
   exact kN.2.2 g S g (.head _) rfl
  refine ej _ rfl (g9 (sa (a5 rfl) (X _ _ kz) (a5 rfl) (.inl ⟨⟨_,rfl⟩,kD⟩) (ck.mpr ⟨g,lu,rfl⟩)) ?_)
  refine yB (λm w=>eD A w/\(∃u j,i0 A w c2 (.dict (QO u))/\i0 A w T (.dict (dV s))/\i0 A w c4 (.list ((mL r::u).map tI))/\u.length<=D.length+1/\u[j]? =some (mZ r g)/\yH r (D++[g]) u (s++[(g,j+1)]))/\m=[some (.ref d),some (.ref c1),some (.ref c2),some (.ref T),some (.ref c4),some (.int g),some (tI (mZ r g)),none])
   (λK3 kV=>yC (D8 (aw:=decide (mZ r g∈u)) (a5 rfl) (a5 rfl) F.at_ (Ea _ _) (decide_eq_true_iff.trans F9.symm) _ ?_)) ?_
  .by_cases S:mZ r g∈u
   .rw [decide_eq_true S]
    refine j_ (eZ.mp S) λj hj=>?_
    exact kV _ _ (iz X ⟨u,j,F,J,G,fZ M,hj,E.same hj⟩ rfl)
   .rw [decide_eq_false S]
    refine wx (jd (a5 rfl) (f9 G.at_)) (a5 rfl) F.at_ (a5 rfl) (Ea _ _) (by unfold QO;rw [xW];exact rC (a_ M (eA kx))) λs8 u8=>?_
    rw [jZ (λq=>S (F9.mp q)),bb,show (mL r::u).length=u.length+1 from rfl,<-Nv] at u8
    have lq:=G.keep u8 kU.symm
    refine qC (a5 rfl) lq.at_ (by rw [bb];exact rC (a_ (fh M) kx)) (a5 rfl) λs9 H=>kV _ _ (iz (H.le (u8.le X F.fr) G.fr) ⟨u++[mZ r g],u.length,(u8.own F.fr).keep H kU,(J.keep u8 kI.symm).keep H kM,?_,by rw [bh];exact fh M,jz,E.more S⟩ rfl)
    have:=H.own (s0:=A) G.fr
    rw [show (mL r::(u++[mZ r g])).map tI=(mL r::u).map tI++[tI (mZ r g)] by rw [<-iI,b_];rfl]
    exact this
  .intro m s8 lx;refine S6 m lx λl8 B=>?_;refine iP B λu j F J G M hj kZ=>?_
   refine wx (sa (a5 rfl) F.at_ (a5 rfl) (Ea _ _) (Jf hj)) (a5 rfl) J.at_ (a5 rfl) (.inl ⟨(oK _ rfl),nP _⟩) ?_ λs9 H=>hK _ _ (qT (H.le l8 J.fr) ⟨u,s++[(g,j+1)],F.keep H kI,?_,G.keep H kM.symm,by rw [bh];exact M,kZ⟩ _ _ rfl)
   .unfold dV;rw [bb,<-bb (f:=(·.1)),E.keys];exact rC (eA kx)
   .have:=H.own (s0:=A) J.fr
    rw [jZ (λq=>lj (by rw [<-E.keys];exact DZ.mp q))] at this
    rw [show dV (s++[(g,j+1)])=dV s++[(.int g,.int (j+1:Nat))] from b_ ..]
    exact this
 .intro m s7 kX;refine rY m kX λX B w5 w6=>?_;refine gq B λu s F J G M E=>?_
  have h7:=h.le (b4 l1 X)
  refine je (zX (jJ (uS (a:=a+2) h7 rfl _ (tA (a:=a+5) (a_ C (by decide)) ?_))))
  have lF:(mL r::u).length<=fF:=a_ (fh (a_ M kT)) (by unfold fF;decide)
  have lh:∀c∈mL r::u,c.length=r.steps.length:=λc C=>by
   rcases eK.mp C with rfl |C
   .exact pV
   .refine Lg c (E.mem c C) λg _=>?_
    unfold mZ;rw [bb,ff]
  refine tu .pU (eQ r.steps.length) (λk=>.int (k:Nat)) (λQ=>p4) (λO kn w=>eD s7 w/\∃I:List Nat,kn=I.map .ref/\I.length=O.length/\∀(i:Nat) V,I[i]? =some V->w V=some (.list ((mL r::u).map λc=>.int (c.getD i (-1))))) ⟨(ed _),[],rfl,rfl,(by intros;contradiction)⟩ (λ_ _ _ _=>trivial) ?_ ?_
  .intro O y r' kn w hd lr K hK;refine G7 kn lr λW I Z kC=>?_
   refine Qm y (rj hd) λkF=>?_
   refine ej [none,some (.int O.length),some (.ref c4)] rfl (Eb (tx (λc:g_=>.int (c.getD O.length (-1))) lF (a5 rfl) (W _ _ G.at_) (λc kW s8 l8=>⟨[none,some (tI c),some (.int O.length)],rfl,jG (pq (a5 rfl) (a5 rfl) ?_) rfl⟩) _ λv s8 l8 hv=>?_))
   .have lD:O.length<c.length:=by rw [lh c kW];exact kF
    rw [ee,ec,dj lD];rfl
   .refine jj v hv λr8 o8=>?_
    refine ⟨?_,hK _ _ ⟨(b4 W l8),(I++[r8]),(by rw [b_];rfl),(by rw [bh,bh,Z];rfl),(λi V z=>?_)⟩⟩
    .rw [bb,Z];exact ei kF (a_ C (by unfold fF;decide))
    .rcases j' i I.length with kq |kq
     .rw [eN kq] at z
      exact l8 _ _ (kC i V z)
     .rw [fk kq] at z
      have h0:i -I.length=0:=iZ.mp (gz z)
      rw [h0] at z
      (injection z with z;subst z)
      rw [show i=O.length by rw [<-Z];exact ir (uh.mp h0) kq]
      exact o8.at_
  .intro kn s8 s9 c7 lH n9;refine Lr lH λW I B Z kC=>?_;subst B
   rw [ff] at Z
   have lG:=b4 W n9.le
   refine AR (Ga (g7 d3 (iJ (a5 rfl)) (tp (df 4 _) λca kG f1 f2 f3=>?_)))
   have ku:=fN (ay:=.inst 0 kG [(33,.ref T)]) f1
   generalize u_ s9 ca _=lI at*
   have kJ:=b4 lG ku.le
   have km:=b4 l1 (b4 X kJ)
   refine a5 rfl _ (jJ (eO (a5 rfl) (km _ _ hA.obj) rfl _ (list_list (a:=a+5) (km _ _ hA.ends) λen ly kP=>AL (df 4 _) λtb kH f1 f2 f3=>?_)))
   have ky:=fN (ay:=.inst 8 kH [(33,.ref ca),(58,.ref c7),(55,.ref en)]) f1
   generalize u_ ly tb _=lE at*
   have U:=b4 kP.le ky.le
   refine hR _ _ _ (b4 km U) (hP tb x u s lE (b4 km U) hn kB E ⟨kH,ca,c7,en,I,ky.at_,⟨kG,T,U _ _ ku.at_,b4 kJ U _ _ J.at_⟩,b4 ku.le U _ _ n9.at_,Z,λi V z=>b4 (b4 n9.le ku.le) U _ _ (kC i V z),ky.le _ _ kP.at_,λg=>?_⟩)
   induction hs:s.lookup g using d_ with
   |some t=>
    refine eS (E.at_ _ (oT hs)) λj e1 e2=>?_
    have e1:t=j+1:=e1
    rw [e1];exact e2
   |none=>
    have lB:g∉x:=λq=>lookup_none hs (by rw [E.keys];exact ip.mpr q)
    rw [sO λi z=>lB ((kB g).mpr (oK i z))];rfl
noncomputable def yJ (w:g_) (b:Nat×Int) (r:Row):Nat×Int:=if w.take r.1.length=r.1 then (1+r.1.length,r.2) else b
noncomputable def wz (s:g_) (b:Nat×Int) (T:Table):Nat×Int:=((T.lookup (s.headD 0)).getD []).reverse.foldl (yJ (s.drop 1)) b
noncomputable def i4 (Ts:List Table) (s:g_):Nat×Int:=Ts.reverse.foldl (wz s) (1,s.headD 0)
theorem Bj {f:t->h->t} (c:∀b x,dB b->dB (f b x)):∀(l:List h) (b:t),dB b->dB (l.foldl f b)
 |[],_,a=>a
 |x::l,b,a=>Bj c l _ (c b x a)
theorem Bk (c:List Table) (d:0<av.length):(i4 c av).1<=av.length/\0<(i4 c av).1:=by
 refine Bj (dB:=λb:Nat×Int=>b.1<=av.length/\0<b.1) (λb T a=>Bj (dB:=λb:Nat×Int=>b.1<=av.length/\0<b.1) (λb r a=>?_) _ b a) _ _ ⟨d,j9⟩
 unfold yJ
 split
 .rename_i h
  have:=congrArg fj h
  rw [fS,ey] at this
  refine ⟨?_,?_⟩
  .show 1+r.1.length<=av.length
   exact n1 (eY 1 _) (zy d (n1 this.symm (qg _ _)))
  .show 0<1+r.1.length
   exact Nat.pos_of_neZero (1+fj r.fst)
 .exact a
theorem RU (k:Ev i e b g (.ref a)) (h:b a=some (.list j)):Al i e b (.rev g) (gO b j.reverse):=λQ f=>k _ (.mk h λc d=>f _ _ (mV d.1) (ej c rfl ((fN d).own (ed _))))
theorem PX (m:Al i e b g λv k=>∃a,v= .ref a/\k a=some (.list j)):Al i e b (.rev g) (gO b j.reverse):=λQ h=>m _ λv o d n=>by
 refine jj v n λa l=>?_
 exact .mk l λc f=>h _ _ (b4 d (mV f.1)) (ej c rfl ((fN f).own d))
theorem Nw (m:Ev i e b g (.ref a)) (l:b a=some (.list (av.map .int))) (j:Ev i e b D (.int d)) (k:Ev i e b aL (.int o)):Al i e b (.tY g D aL) (gO b (((av.drop d).take (o -d)).map .int)):=λQ h=>m _ (j _ (k _ (.list l IX λc f=>h _ _ (mV f.1) (ej c rfl (by rw [<-qh,<-oU,B9];exact (fN f).own (ed _))))))
theorem RW (r:Al i e b g (gO b (av.map .int))) (q:∀a,eD b a->Al i e a D (gO a (bS.map .int))) (m:∀a,eD b a->n (.bool (decide (av=bS))) a):Al i e b (.cmp g .eq D) n:=
 AW r λv s j f=>by
  refine jj v f λc p=>?_
  refine qo (q s j) λv t k f=>?_
  refine jj v f λd o=>?_
  exact λQ l=>.eq (.list (k _ _ p.at_) o.at_ (wk av) (wk bS) _ (decide_eq_true_iff.trans ⟨λh=>by rw [h],IU⟩)) (l _ (m _ (b4 j k)))
theorem Ny (h:Ev (eE PG (a+1)) e b g (tI av)):Al (eE PG (a+1)) e b (.call (.cst (.bi 10)) (.cons g .nil)) (gO b (av.map .int)):=
 gy d3 (iJ h) λQ f=>F_ λc i d=>f _ _ d.le (ej c rfl (d.own (ed _)))
theorem CV (h:kj b a aK) (q:Ev i e b g (.ref a)) (r:Ev i e b D (.int p)):Al i e b (.fM g 1 (.cons D (.cons (.lst .nil) .nil))) λv t=>∃n,v= .ref n/\t n=some (.list ((((strip aK).lookup p).getD []).map ie)):=λQ k=>by
 refine DQ q h.dict (.inl rfl) (r _ λc m=>?_)
 have d:=fN (ay:=.list []) m
 refine ej _ (d.le _ _ h.dict) (.G' (xG _) ?_)
 clear q r m;by_cases j:p∈aK.map (·.1)
 .refine Qn p (D0 j) λf s u=>?_
  refine .inl (ej _ (ck.mpr ⟨f,s,rfl⟩) (k _ _ d.le ⟨_,rfl,?_⟩))
  rw [u];exact d.le _ _ (h.ls f s)
 .refine .inr ⟨by rw [uQ,qH];exact j,k _ _ d.le (ej _ rfl ?_)⟩
  have:(strip aK).lookup p=none:=by
   induction w:(strip aK).lookup p with
   |none=>rfl
   |some l=>
    refine i5 (gT.mp w) λx y f _=>?_
    exact absurd (by rw [<-rf,f];simp) j
  rw [this];exact d.at_
theorem xN {B:List (Nat×Ent)} (ht:b d=some (.list (B.map λp=>.ref p.1))) (hE:∀p∈B,kj b p.1 p.2) (w:b o=some (.list (a8.map .int))) (hl:a8.length<=10000):
 Cl (eE PG (a+4)) (.fn 75) [.ref d,.ref o] b (gO b ((iF (i4 (B.map λp=>strip p.2)) a8.length a8).map .int)):=by
 refine jO [some (.ref d),some (.ref o),none,none,none,none,none,none,none] (df _ _) rfl rfl λlr hk R hR=>?_
 (injection hk with hk;subst hk)
 generalize kq:B.map (λp=>strip p.2)=z at*
 refine sF gQ λc s1 n1=>g9 d3 (oN a8.length (λN f x=>∃(p:Nat) (E:List Int) (w4 w5 A r l:Option AV),f=[some (.ref d),some (.ref o),some (.ref c),some (.int p),w4,w5,A,r,l]/\eD b x/\i0 b x c (.list (E.map .int))/\p<=a8.length/\N=a8.length -p/\E.length<=p/\
  E++iF (i4 z) (a8.length -p) (a8.drop p)=iF (i4 z) a8.length a8)
  ⟨0,[],_,_,_,_,_,rfl,n1.le,(n1.own (ed _)),(fy _),rfl,(eJ _),rfl⟩ ?_)
 intro N f x kZ K hK;refine Jz kZ λp E w4 w5 A r l kM=>Ad kM λkI Y J I kO S W=>?_;subst kI;subst kO
 have kD:∀{f:MM} {b:AS},f[1]? =some (some (.ref o))->b o=some (.list (a8.map .int))->Ev (eE PG (a+3)) f b (.call (.cst (.bi 0)) (.cons (.var 1) .nil)) (.int a8.length):=λO w=>by
  have:=jd (a:=a+2) (a5 O) (f9 w)
  rwa [bb] at this
 refine ej _ (pw (f' (fV (a5 rfl) (kD rfl (Y _ _ w)) (n_ rfl)))) (λlu G=>⟨λL=>?_,λL=>?_⟩)
 .have M:p<a8.length:=h9.mp (of_decide_eq_true L)
  have T:=b4 Y G
  have ky:(a8.map AV.int)[p]? =some (.int a8[p]):=by rw [ee,dj M];rfl
  have kX:a8.drop p=a8[p]::a8.drop (p+1):=fQ M
  have kG:0<(a8.drop p).length:=by rw [ey];exact iX M
  have kz:(a8.drop p).headD 0=a8[p]:=by rw [kX];rfl
  have kW:(a8.drop p).drop 1=a8.drop (p+1):=by rw [ig]
  refine q9 (g6 (iL (ia (a5 rfl) d3 rfl) (ft (a5 rfl) (T _ _ w) (a5 rfl) ky))) rfl (by decide) (q_ (RU (a5 rfl) (T _ _ ht)) λv kK l3 hv=>?_)
  refine jj v hv λct kn=>?_
  have kx:=b4 T l3
  rw [<-p_] at kn
  refine iG (.list ct _) B.reverse (λp=>.ref p.1) (λQ=>gI kn.at_) (λD f x=>eD kK x/\∃(g:Nat×Int) (A r l:Option AV),f=[some (.ref d),some (.ref o),some (.ref c),some (.int p),some (.int (p+g.1:Nat)),some (.int g.2),A,r,l]/\g=(D.map λp=>strip p.2).foldl (wz (a8.drop p)) (1,a8[p]))
   (wU (ed _) (1,a8[p]) _ _ _ rfl rfl) (λ_ _ _ h=>h.1 _ _ kn.at_) ?_ ?_
  .intro D y r' f kY hD kJ K2 kT;refine sx f kJ λC g A r l V=>?_
   have hy:y∈B:=List.mem_reverse.mp (mid hD)
   have km:=b4 kx C
   have kV:=(hE y hy).le km
   refine ej _ rfl (q_ (PX (CV kV (a5 rfl) (ft (a5 rfl) (km _ _ w) (a5 rfl) ky))) λv ku l5 hv=>?_)
   refine jj v hv λcr kl=>?_
   rw [<-p_] at kl
   refine iG (.list cr _) _ ie (λQ=>gI kl.at_) (λD2 f x=>eD ku x/\∃(j:Nat×Int) (r l:Option AV),f=[some (.ref d),some (.ref o),some (.ref c),some (.int p),some (.int (p+j.1:Nat)),some (.int j.2),some (.ref y.1),r,l]/\j=D2.foldl (yJ (a8.drop (p+1))) g)
    (Dh (ed _) g _ _ rfl rfl) (λ_ _ _ h=>h.1 _ _ kl.at_) ?_ ?_
   .intro D2 q r2 f lg lx lj K3 kF;refine Ih f lj λF j r l H=>?_
    have lq:=b4 km (b4 l5 F)
    have U:∀f:MM,f[3]? =some (some (.int p))->∀b,Ev (eE PG (a+3)) f b (.bin .add (.var 3) (.cst (.int 1))) (.int (p+1:Nat)):=λf O b=>ia (a5 O) d3 rfl
    refine ej [some (.ref d),some (.ref o),some (.ref c),some (.int p),some (.int (p+j.1:Nat)),some (.int j.2),some (.ref y.1),some (tI q.1),some (.int q.2)] rfl (pG (aw:=decide ((a8.drop (p+1)).take q.1.length=q.1)) (wo (RW (av:=(a8.drop (p+1)).take q.1.length) ?_ (λkU _=>Ny (a:=a+2) (a5 rfl)) λ_ _=>rfl)) λkU l7=>⟨λZ=>?_,λZ=>?_⟩)
    .have:=Nw (i:=eE PG (a+3)) (e:=[some (.ref d),some (.ref o),some (.ref c),some (.int p),some (.int (p+j.1:Nat)),some (.int j.2),some (.ref y.1),some (tI q.1),some (.int q.2)]) (g:=.var 1) (a5 rfl) (lq _ _ w) (U _ rfl _) (ia (bM:=.add) (bZ:=((p+1+q.1.length:Nat):Int)) (U _ rfl _) (px (a:=a+2) (a5 (a:=7) rfl)) rfl)
     rwa [ib] at this
    .refine q9 (j:=[.int (p+(1+q.1.length):Nat),.int q.2]) (λQ hQ=>g6 (iL (ia (U _ rfl _) (px (a:=a+2) (a5 rfl)) rfl) (a5 rfl)) _ (by rw [<-fJ] at hQ;exact hQ)) rfl (by decide) (kF _ _ (Dh (b4 F l7) (1+q.1.length,q.2) _ _ rfl ?_))
     rw [iS,<-H]
     exact (if_pos (of_decide_eq_true Z)).symm
    .refine kF _ _ (Dh (b4 F l7) j _ _ rfl ?_)
     rw [iS,<-H]
     exact (if_neg (of_decide_eq_false Z)).symm
   .intro f lg kP;refine Ih f kP λF j r l H=>?_
    refine kT _ _ (wU (b4 C (b4 l5 F)) j _ _ _ rfl ?_)
    rw [b_,iS,<-V,H]
    show _=wz (a8.drop p) g (strip y.2)
    unfold wz
    rw [kz,kW]
  .intro f kY lh;refine sx f lh λC g A r l V=>?_
   have kB:g=i4 z (a8.drop p):=by
    rw [V,<-kq]
    unfold i4
    rw [kz,p_]
   have P:=Bk z kG
   rw [<-kB,ey] at P
   have kQ:p+g.1<=a8.length:=by have:=d7 P.1 p;rwa [rt I] at this
   have kC:p<p+g.1:=gk P.2
   have o4:=(J.le G).le (b4 l3 C)
   refine qC (a5 rfl) o4.at_ (by rw [bb];exact c_ (a_ S (a_ I hl)) (by unfold fF;decide)) (a5 rfl) λku u5=>g9 (a5 rfl) (hK _ _ _ (i3 M kC) ⟨(p+g.1),(E++[g.2]),_,_,_,_,_,rfl,(u5.le (b4 kx C) J.fr),?_,kQ,rfl,?_,?_⟩)
   .rw [b_];exact u5.own J.fr
   .rw [bh];exact a_ (fh S) kC
   .have e1:=sM _ (λkH hs=>(Bk z (av:=kH) hs).2) kG
    rw [ey,<-kB,ig,ey] at e1
    rw [eC,<-W,e1];rfl
 .have kN:p=a8.length:=ir I (gS.mp (nr.mp (of_decide_eq_false L)))
  clear ht hE w hl kq n1 I hK S kD L;subst kN
  rw [jB,show iF (i4 z) 0 (a8.drop a8.length)=[] from rfl,eR] at W
  subst W
  exact iM (a5 rfl) (hR _ _ _ (b4 Y G) (ej c rfl (J.le G)))
section
noncomputable def vR (R:List Row):AV:=.tup (R.map ie)
noncomputable def Bl (c:List (List Row)):AV:=.tup (c.map vR)
theorem Nz (p q:Row) (h:ie p=ie q):p=q:=by
 have a:=AV.tup.inj h
 exact Qf (Hx (fq a).1) (AV.int.inj (fq (fq a).2).1)
theorem CW (R S:List Row) (h:vR R=vR S):R=S:=xK Nz (AV.tup.inj h)
theorem Kn (c d:List (List Row)) (h:Bl c=Bl d):c=d:=xK CW (AV.tup.inj h)
theorem CX (n:Nat) (r:Row):jk (n+2) (ie r):=.tup _ _ λx a=>by
 cases a with
 |head=>exact yr n _
 |tail _ a=>
  cases a with
  |head=>exact .int _ _
  |tail _ a=>exact (eg a).elim
theorem tF (n:Nat) (R:List Row):jk (n+3) (vR R):=.tup _ _ λx a=>by
 refine iQ x (ck.mp a) λr _=>?_;exact CX n r
theorem Bm (c:List (List Row)):Plain (Bl c):=.tup _ _ λx a=>by
 refine iQ x (ck.mp a) λr _=>?_;exact tF 2 r
noncomputable def z3 {α:Type} [DecidableEq α] (l:List α):List α:=l.foldl (λd x=>if x∈d then d else d++[x]) []
noncomputable def vS (W:List Row):List g_:=[]::W.flatMap λr=>(eQ r.1.length).map λk=>r.1.take (k+1)
noncomputable def rests (W:List Row):List (List Row):=z3 ((vS W).map (gH W))
noncomputable def uT (R:List (List Row)) (g:Int):List (List Row):=R.map λr=>after r g
noncomputable def NA (R:List (List Row)):List (List (List Row)):=z3 ((R.map λ_=>[])::[1,2,3,4,5].map (uT R))
section
variable {α:Type} [DecidableEq α]
theorem pA (l:List α) (x:α):z3 (l++[x])=if x∈z3 l then z3 l else z3 l++[x]:=by unfold z3;rw [iS];rfl
theorem Ec (l:List α):(z3 l).length<=l.length:=by
 induction l using snoc_ind with
 |h0=>exact eJ _
 |h1 l x ih=>
  rw [pA,bh]
  split
  .exact fZ ih
  .rw [bh];exact fh ih
end
noncomputable def Gives (st:AS) (v:AV) (xs:List AV):Prop:=∀st1,eD st st1->∃it:It,(∀st2,eD st1 st2->it.ok st2)/\∀Q:It->List AV->Prop,Q it xs->oi st1 Q v
theorem HS (h:b a=some (.list j)):Gives b (.ref a) j:=λf c=>ej (.list a j) (λe d=>d _ _ (c _ _ h)) (λQ=>gI (c _ _ h))
theorem Ko:Gives b (.tup j) j:=λa c=>ej .tup (λ_ _=>trivial) (λQ h=>.tup h)
theorem Bn (h:Gives b l (a7.map ie)) (j:a7.length<=fF) (i:∀d,eD b d->n (vR (gH a7 av)) d):Cl (eE PG (a+3)) (.fn 78) [l,tI av] b n:=by
 refine jO [some l,some (tI av)] (df _ _) rfl rfl λk c u o=>?_
 (injection c with c;subst c)
 refine sg (p3 (a:=a+1) (qo (tw (λr:Row=>jy r.1 av) (λr=>ie (r.1.drop av.length,r.2)) a7 ie j (n:=λw _=>w=l) (jG (a5 rfl) rfl) (λw f p e=>e▸h f p) λr x f t=>
  (gr [none,some (tI r.1),some (.int r.2),some (tI av)] rfl (tv (pw (f' (AY (rd (a5 rfl) (px (a:=a+1) (a5 rfl))) (a5 rfl))))) (λ_ v _=>jG (g6 (iL (AX (a5 rfl) (px (a:=a+1) (a5 rfl))) (a5 rfl))) rfl))) λw s _ q=>?_) (n:=n) i) λw s g m=>o _ _ _ g m
 rw [show (gH a7 av).map ie=_ from et ..];exact q
theorem Ed (m:Ev i e b g l) (d:Ev i e b D (.ref a)) (k:b a=some (.list j)) (n:Plain l) (f:∀x∈j,Plain x) (h:aw=true↔l∈j):Tv i e b (.cmp g .Cf D) (!aw):=
 f' (fV m d λQ c=>.Cf (.list n k f _ h) c)
theorem NB (h:VG PG i (VE PG i g) bD e j b bL):Oi PG i .nil e b λt b=>if t then VG PG i (VE PG i g) bD e j b bL else bL j b:=h
theorem NC {W:MM->AS->(AV->AS->Prop)->Prop} (h:Nat->AV) (k:Ev i e b g (.pU 0 a 1)) (p:j.length+a<=fF) (n:∀l,l<a->∃f,jN C (.int (l:Nat)) (Oh C e)=some f/\∀Q:AV->AS->Prop,Q (h l) b->W f b Q) (o:bL (j++(eQ a).map h) b):VG PG i W (.cons C g .nil .nil) e j b bL:=by
 refine ⟨rfl,k _ (p4 ?_)⟩
 rw [B8]
 refine vi (λ(d:List Nat) (c:List AV) s=>s=b/\c=j++d.map h) ⟨rfl,(eR _).symm⟩ ?_ ?_
 .clear k o;intro d y z c s r u x v;refine KV s c u ?_
  obtain ⟨rfl,m⟩:=rj r
  refine eS (n _ m) λf w t=>?_
  refine tO trivial f w (t _ ⟨?_,v _ _ ⟨rfl,by rw [b_,eC];rfl⟩⟩)
  rw [bh,bb]
  exact ei (ru m _) p
 .clear k p n;intro c s q;refine KV s c q ?_
  exact ⟨trivial,o⟩
theorem CY (W:List Row):(vS W).length<=1+sz W:=by
 unfold vS
 rw [e_,eY]
 refine d7 ?_ 1
 induction W with
 |nil=>exact eJ _
 |cons r W a=>
  rw [iT,bh,bb,ff]
  have:sz (r::W)=wt r+sz W:=rfl
  rw [this]
  refine fP ?_ a
  unfold wt;exact fZ (nj _ (by decide))
end
section
section
variable {α:Type} [DecidableEq α]
theorem xO {l:List α} {x:α}:x∈z3 l↔x∈l:=by
 induction l using snoc_ind with
 |h0=>exact Iff.rfl
 |h1 l y ih=>
  rw [pA,eF,dt,<-ih]
  by_cases h:y∈z3 l
  .rw [if_pos h];exact ⟨.inl,λq=>q.elim id λq=>q▸h⟩
  .rw [if_neg h,eF,dt]
theorem ND (l:List α):(z3 l).Nodup:=by
 induction l using snoc_ind with
 |h0=>exact eI
 |h1 l y ih=>
  rw [pA]
  by_cases h:y∈z3 l
  .rw [if_pos h];exact ih
  .rw [if_neg h]
   exact eP.mpr ⟨ih,eT.mpr ⟨eg,eI⟩,λa ha b hb q=>h (by rw [<-dt.mp hb,<-q];exact ha)⟩
end
theorem zm (g:∀a b,dE a=dE b->a=b):dE dp∈dq.map dE↔dp∈dq:=by
 rw [ck]
 exact ⟨λf=>eS f λy c e=>g _ _ e▸c,λd=>(ej dp d rfl)⟩
theorem HT (I:b d=some (.list (a7.map ie))) (h5:a7.length<=5) (U:sz a7<1000) (hP:∀kx,eD b kx->n (.tup [.int (rests a7).length,.int (NA (rests a7)).length]) kx):Cl (eE PG (a+5)) (.fn 79) [.ref d] b n:=by
 have kI:∀r∈a7,r.1.length<=sz a7:=λr Y=>a_ (by unfold wt;exact fZ (nj _ (by decide)):r.1.length<=wt r) (A5 (fE Y))
 have L:(vS a7).length<fF:=c_ (CY a7) (gG (ru U 1) (by unfold fF;decide))
 refine jO [some (.ref d),none,none,none,none,none,none,none] (df _ _) rfl rfl λB hk R C=>?_
 (injection hk with hk;subst hk)
 refine je (yG (sh (iJ (l:=tI []) (g6 gQ)) λc0 s1 n1=>DV (a5 rfl) (tu (.list d _) a7 ie (λQ=>gI (n1.le _ _ I)) (λG M s=>eD s1 s/\M=(G.flatMap λr=>(eQ r.1.length).map λB=>r.1.take (B+1)).map tI) ⟨ed _,rfl⟩ (λG M s h=>h.1 _ _ (n1.le _ _ I)) ?_ ?_)))
 .clear I h5 hP L C n1;intro G r r' M s hd kJ K p;refine Va M kJ λhl=>?_
  have Y:=kI r (mid hd)
  have kn:r.1.length<=1000:=a_ Y (eA U)
  refine ej [none,some (tI r.1),some (.int r.2),none] rfl (NB (NC (λB=>tI (r.1.take (B+1))) (λQ E=>jJ (px (a:=a+3) (a5 rfl) _ (tA (a:=a+3) (a_ kn (by decide)) E))) ?_ (λi kO=>⟨[none,some (tI r.1),some (.int r.2),some (.int i)],rfl,λQ E=>rd (a:=i+1) (a5 rfl) (ia (a5 rfl) d3 rfl) _ E⟩) (p _ _ ⟨hl,?_⟩)))
  .rw [bb]
   have Z:=CY G
   have h2:sz G<=sz a7:=by rw [hd,RP];exact eh _ _
   unfold vS at Z
   rw [e_] at Z
   exact eA (Xg Z h2 U kn)
  .rw [kA,b_,iT,zN,eR,et];rfl
 intro _ s2 s3 c1 kz S;obtain ⟨kq,rfl⟩:=kz
 have e0:=S.le _ _ (kq _ _ n1.at_)
 refine add_lists e0 S.at_ ?_ λc4 N O=>?_
 .have:=L
  unfold vS at this
  rw [e_] at this
  rw [bb,i9,eY]
  exact eA this
 have kH:[tI []]++(a7.flatMap λr=>(eQ r.1.length).map λB=>r.1.take (B+1)).map tI=(vS a7).map tI:=rfl
 rw [kH] at O
 have V:eD b N:=b4 n1.le (b4 kq (b4 S.le O.le))
 refine sF gQ λc2 s5 W=>oS (a5 rfl) (iG (.list c4 _) (vS a7) tI (λQ=>gI (W.le _ _ O.at_)) (λD m s=>eD N s/\i0 N s c2 (.list ((z3 (D.map (gH a7))).map vR))/\∃q z,m=[some (.ref d),some (.ref c4),some (.ref c2),q,z,none,none,none]) (qT W.le (W.own (ed _)) _ _ rfl) (λD m s h=>h.1 _ _ O.at_) ?_ ?_)
 .intro D w r' m s6 X kN K p;refine rY m kN λH c q z=>?_
  have kl:(z3 (D.map (gH a7))).length<fF:=c_ (Ec _) (by rw [bb];exact c_ (by rw [X,bh];exact eh _ _) L)
  refine ej _ rfl (yy (gy d3 (iL (a5 rfl) (a5 rfl)) (Bn (a:=a+1) (n:=λj _=>j=vR (gH a7 w)) (HS (H _ _ (V _ _ I))) (eA (rC h5)) λ_ _=>rfl)) λj F l A=>?_)
  subst A
  have c:=c.le l
  refine ki (Ed (aw:=decide (gH a7 w∈z3 (D.map (gH a7)))) (a5 rfl) (a5 rfl) c.at_ (tF 3 _) (λx hx=>by refine iQ x (ck.mp hx) λy _=>?_;exact tF 3 _) (decide_eq_true_iff.trans (zm CW).symm)) (λe=>?_) λe=>?_
  .rw [fL,decide_eq_false_iff_not] at e
   refine qC (a5 rfl) c.at_ (by rw [bb];exact kl) (a5 rfl) λs8 u8=>p _ _ (qT (u8.le (b4 H l) c.fr) ?_ _ _ rfl)
   rw [b_,show [w].map (gH a7)=[gH a7 w] from rfl,pA,if_neg e,b_]
   exact u8.own c.fr
  .rw [jM,decide_eq_true_iff] at e
   refine p _ _ (qT (b4 H l) ?_ _ _ rfl)
   rw [b_,show [w].map (gH a7)=[gH a7 w] from rfl,pA,if_pos e]
   exact c
 .intro m s6 kF;refine rY m kF λH c q z=>?_
  have c:i0 N s6 c2 (.list ((rests a7).map vR)):=c
  have ky:(rests a7).length<fF:=c_ (Ec _) (by rw [bb];exact L)
  have kD:∀R∈rests a7,R.length<=fF:=λR C=>by
   refine iQ R (ck.mp (xO.mp C)) λw _=>?_
   unfold gH
   rw [bb]
   exact a_ (G0 _ _) (eA (rC h5))
  refine je (Jg (p3 (a:=a+3) (n:=λj _=>j=Bl ((rests a7).map λ_=>[])) (qo (tx (λ_:List Row=>.tup []) (eA ky) (a5 rfl) c.at_ λR _ F _=>(ej _ rfl (jG (g6 gQ) rfl))) λj s _ A=>by rw [et];exact A) (λ_ _=>rfl) _ ?_))
  intro _ F l kK c5 kG;subst kK
  have n7:=fN (ay:=.list [Bl ((rests a7).map λ_=>[])]) kG
  have kP:=n7.ne (l _ _ c.at_)
  generalize u_ F c5 _=s8 at*
  have l8:=b4 H l
  refine A4 (g7 d3 (iL d3 d3) (jI (a:=a+3) (ej [1,6] rfl (.two ⟨by decide,by decide,?_⟩))))
  refine iG .pU [1,2,3,4,5] AV.int (λQ E=>tr (a:=1) (d:=6) E) (λD m s=>eD F s/\i0 F s c5 (.list ((z3 (((rests a7).map λ_=>[])::D.map (uT (rests a7)))).map Bl))/\∃q z T w7,m=[some (.ref d),some (.ref c4),some (.ref c2),q,z,some (.ref c5),T,w7])
   (uu n7.le (n7.own (ed _)) _ _ _ _ rfl) (λ_ _ _ _=>trivial) ?_ ?_
  .intro D g r' m s9 X kM K p;refine wX m kM λt f q z T w7=>?_
   have km:=(c.le l).le t
   have kl:(z3 (((rests a7).map λ_=>[])::D.map (uT (rests a7)))).length<fF:=by
    refine c_ (Ec _) ?_
    rw [e_,bb]
    have:=congrArg fj X
    rw [bh] at this
    have h6:D.length<=5:=a_ (eh _ _) (gv this.symm)
    exact c_ (fh h6) (by unfold fF;decide)
   refine ej _ rfl (yy (p3 (a:=a+3) (n:=λj _=>j=Bl (uT (rests a7) g)) (qo (tx (λR=>vR (after R g)) (eA ky) (a5 rfl) km.at_ λR C kC J=>⟨[none,some (vR R),some (.int g)],rfl,gy d3 (iL (a5 rfl) (g6 (iJ (a5 rfl)))) (Bn (a:=a+1) (av:=[g]) Ko (kD R C) λ_ _=>rfl)⟩) λj s _ A=>by unfold uT;rw [et];exact A) λ_ _=>rfl) λj kC J A=>?_)
   subst A
   have f:=f.le J
   refine ki (Ed (aw:=decide (uT (rests a7) g∈z3 (((rests a7).map λ_=>[])::D.map (uT (rests a7))))) (a5 rfl) (a5 rfl) f.at_ (Bm _) (λx hx=>by refine iQ x (ck.mp hx) λy _=>?_;exact Bm _) (decide_eq_true_iff.trans (zm Kn).symm)) (λe=>?_) λe=>?_
   .rw [fL,decide_eq_false_iff_not] at e
    refine qC (a5 rfl) f.at_ (by rw [bb];exact kl) (a5 rfl) λkQ ku=>p _ _ (uu (ku.le (b4 t J) f.fr) ?_ _ _ _ _ rfl)
    rw [b_,<-iI,show [g].map (uT (rests a7))=[uT (rests a7) g] from rfl,pA,if_neg e,b_]
    exact ku.own f.fr
   .rw [jM,decide_eq_true_iff] at e
    refine p _ _ (uu (b4 t J) ?_ _ _ _ _ rfl)
    rw [b_,<-iI,show [g].map (uT (rests a7))=[uT (rests a7) g] from rfl,pA,if_pos e]
    exact f
  .intro m s9 kB;refine wX m kB λt f q z T w7=>?_
   have km:=(c.le l).le t
   refine iM (g6 (iL (jd (a:=a+3) (a5 rfl) (f9 km.at_)) (jd (a:=a+3) (a5 rfl) (f9 f.at_)))) (C _ _ _ (b4 V (b4 l8 t)) ?_)
   rw [bb,bb]
   exact hP _ (b4 V (b4 l8 t))
end
theorem Gb {α:Type} {l d r:List α} {y:α} (h:l=d++y::r):l.drop (d++[y]).length=r:=by
 rw [h,show d++y::r=(d++[y])++r by rw [eC];rfl,iU]
theorem NF (a b:Nat):max (a:Int) b=((max a b:Nat):Int):=by
 rcases ui a b with h |h
 .rw [Ab h,qj (gS.mpr h)]
 .rw [BL h,Qk (gS.mpr h)]
theorem NG {m:MM} {st:AS} {n:Nat} {a b:CE} {i j:Nat} (ha:Ev (eE PG (n+1)) m st a (.int i)) (hb:Ev (eE PG (n+1)) m st b (.int j)):Ev (eE PG (n+1)) m st (.call (.cst (.bi 3)) (.cons a (.cons b .nil))) (.int (max i j:Nat)):=
 xw d3 (iL ha hb) λQ hQ=>jI (.mk (.mk (.mk (show Q (.int (max (i:Int) j)) st by rw [NF];exact hQ))))
theorem B1 (M:b d=some (.list (C.map .ref))) (Z:ke b C aP) (hn:b o=some (.list (bT.map sj))) (hS:∀s∈aP,sortI (s.map (·.1))=s.map (·.1)/\(s.map (·.1)).Nodup/\s.length<=5) (hO:pQ 1 0 aP=some aP.length) (hN:rQ 0 bT=some I) (hc:aP.length<=1000) (hP:∀F,eD b F->n (.bool true) F):Cl (eE PG (a+4)) (.fn 80) [.ref d,.ref o] b n:=by
 have G:=Z.length
 refine jO [some (.ref d),some (.ref o),none,none,none,none,none] (df _ _) rfl rfl λf hk R hR=>?_
 (injection hk with hk;subst hk)
 refine g9 (l:=.int (1:Nat)) d3 (A4 (jJ (jd (a:=a+2) (a5 rfl) (f9 M) _ (tA (a:=a+2) (d:=(C.map AV.ref).length) (by rw [bb,G];exact a_ hc (by decide)) ?_))))
 rw [bb,G]
 refine iG .pU (eQ aP.length) (λf=>.int (f:Nat)) (λQ=>p4) (λq m s=>eD b s/\∃(f:Nat) (z l x i:Option AV),m=[some (.ref d),some (.ref o),some (.int f),z,l,x,i]/\pQ f q.length (aP.drop q.length)=some aP.length) ⟨(ed _),1,_,_,_,_,rfl,hO⟩ (λ_ _ _ _=>trivial) ?_ ?_
 .intro q y r' m s1 E ku K W;refine Ce m ku λr f z l x i e=>?_
  refine Qm y (rj E) λH=>?_
  have hs:=dj H
  refine eS (Z.get hs) λdd kq kl=>?_
  refine mW (hS _ (fO H)) λh1 h2 h3=>?_
  rw [fQ H] at e
  generalize aP[q.length]=s at*
  refine eS (jh.mp e) λT kx e=>?_
  have S:∀{X:Ak} {m:MM} {F:AS},eD b F->m[0]? =some (some (.ref d))->m[3]? =some (some (.int q.length))->Ev X m F (.sub (.var 0) (.var 3)) (.ref dd):=λkH hm kC=>ft (a5 hm) (kH _ _ M) (a5 kC) (by rw [ee,kq];rfl)
  have ky:(dV s).map (·.1)=(s.map (·.1)).map AV.int:=by unfold dV;rw [et,et];rfl
  refine ej _ rfl (q_ (gy d3 (iJ (S r rfl rfl)) (sI (a:=a+2) (λQ hQ=>q7 (r _ _ kl) (nP _) Q (by rw [ky];exact hQ)) (by rw [bb];exact h3))) λkJ U B hv=>?_)
  refine jj kJ hv λc N=>?_
  rw [h1,et] at N
  refine iG (.list c _) s (AV.int∘λp:Int×Nat=>p.1) (λQ=>gI N.at_) (λD m s'=>eD U s'/\∃(f:Nat) (l x i:Option AV),m=[some (.ref d),some (.ref o),some (.int f),some (.int q.length),l,x,i]/\nR q.length f ((s.drop D.length).map (·.2))=some T) (wU (ed _) f _ _ _ rfl kx) (λ_ _ _ h=>h.1 _ _ N.at_) ?_ ?_
  .intro D p A m s3 P kB K2 kG;refine sx m kB λL u l x i j=>?_
   have km:=b4 r (b4 B L)
   have Y:s.drop D.length=p::A:=by rw [P,iU]
   have O:s.drop (D++[p]).length=A:=Gb P
   rw [Y] at j
   have j:(if u<=q.length\/u<p.2 then none else nR q.length (max u (p.2+1)) (A.map (·.2)))=some T:=j
   by_cases w:u<=q.length\/u<p.2
   .rw [if_pos w] at j;contradiction
   rw [if_neg w] at j
   refine iK (not_or.mp w) λg1 g2=>?_
   have kn:∀{X:Ak} {m:MM},m[0]? =some (some (.ref d))->m[3]? =some (some (.int q.length))->m[4]? =some (some (.int p.1))->Ev X m s3 (.sub (.sub (.var 0) (.var 3)) (.var 4)) (.int p.2):=λkF kM c=>sa (S km kF kM) (km _ _ kl) (a5 c) (.inl ⟨(oK _ rfl),nP _⟩) (rL (vp h2 (mid P)))
   refine ej _ rfl (ki (MS (f' (fV (a5 rfl) (a5 rfl) (D5 rfl))) λ_=>f' (fV (kn rfl rfl rfl) (a5 rfl) (xJ rfl))) (λJ=>?_) λ_=>s_end (g9 (NG (n:=a+2) (a5 rfl) (ia (bZ:=((p.2+1:Nat):Int)) (kn rfl rfl rfl) d3 rfl)) (kG _ _ ⟨L,max u (p.2+1),_,_,_,rfl,by rw [O];exact j⟩)))
   exfalso
   rw [j1,decide_eq_true_iff,decide_eq_true_iff] at J
   exact J.elim (λh=>g1 (gS.mp h)) λh=>g2 (h9.mp h)
  .intro m s3 kz;refine sx m kz λL u l x i j=>?_
   rw [ou] at j
   have j:some u=some T:=j
   clear M Z hn hS hO hN hc hP G hR E ku H kq hs kl h1 h2 h3 kx S ky hv N kz;obtain rfl:=d5 j
   exact W _ _ ⟨(b4 r (b4 B L)),_,_,_,_,_,rfl,(by rw [bh];exact e)⟩
 .intro m s1 kD;refine Ce m kD λr f z l x i e=>?_
  rw [ff,ou] at e
  have e:some f=some aP.length:=e
  obtain rfl:=d5 e
  refine g9 (l:=.int (0:Nat)) d3 (oS (a5 rfl) (iG (.list o _) bT sj (λQ=>gI (r _ _ hn)) (λD m s=>eD s1 s/\∃(g:Nat) (z l i:Option AV),m=[some (.ref d),some (.ref o),some (.int aP.length),z,l,some (.int g),i]/\rQ g (bT.drop D.length)=some I) (wU (ed _) 0 _ _ _ rfl hN) (λ_ _ _ h=>h.1 _ _ (r _ _ hn)) ?_ ?_))
  .intro D t A m U E kI K W;refine sx m kI λB g z l i e=>?_
   have Y:bT.drop D.length=t::A:=by rw [E,iU]
   have O:bT.drop (D++[t]).length=A:=Gb E
   rw [Y] at e
   have e:(if t>g+1 then none else rQ (max g t) A)=some I:=e
   by_cases w:t>g+1
   .rw [if_pos w] at e;contradiction
   rw [if_neg w] at e
   refine ej _ rfl (ki (f' (fV (a5 rfl) (ia (bZ:=((g+1:Nat):Int)) (a5 rfl) d3 rfl) (xJ rfl))) (λJ=>absurd (h9.mp (of_decide_eq_true J)) w) λ_=>s_end (g9 (NG (n:=a+2) (a5 rfl) (a5 rfl)) (W _ _ ⟨B,max g t,_,_,_,rfl,by rw [O];exact e⟩)))
  .intro m U kK;refine sx m kK λB g z l i e=>?_
   have V:=b4 r B
   refine iM (l:=.bool true) (fV (a5 rfl) (jd (a:=a+2) (a5 rfl) (f9 (V _ _ M))) (eq_int ?_)) (hR _ _ _ V (hP _ V))
   rw [bb,G];exact (decide_eq_true rfl).symm
structure Inf where
 g:Int
 cl:Int
 un:Bool
 id:Int
 part:Int
 cnt:Int
noncomputable def VO (I:Inf):List (Nat×AV):=[(34,.int 0),(29,.int I.g),(35,.int I.cl),(36,.int 1),(31,.bool I.un),(24,.int I.id),(25,.int I.part),(26,.int I.cnt),(30,.int 0),(37,.str []),(38,.int 0),(39,.int 0),(40,.int 0),(41,.int 0),(42,.int 0),(43,.str [])]
inductive pH (st:AS) (r:Nat) (I:Inf):Prop where
 |mk (dx:Nat) (h0:st r=some (.inst 1 dx (VO I))):pH st r I
noncomputable def yK (st:AS) (rs:List Nat) (is:List Inf):Prop:=rs.length=is.length/\∀(i:Nat) r,rs[i]? =some r->∃I,is[i]? =some I/\pH st r I
structure Buf (s0 st:AS) (b bx row:Nat) (ll:Int) (rs:List Nat) (is:List Inf):Prop where
 le:eD s0 st
 obj:st b=some (.inst 2 bx [(28,.ref row),(44,.bool false),(45,.int ll),(46,.int 0)])
 lst:st row=some (.list (rs.map .ref))
 inf:yK st rs is
 nd:rs.Nodup
 fb:s0 b=none
 fw:s0 row=none
 fr:∀r∈rs,s0 r=none
 len:is.length<=10000
inductive Bo (st:AS) (gd:Nat):Prop where
 |mk (dx cd:Nat) (a b c d:AV) (h0:st gd=some (.inst 9 dx [(33,.ref cd),(59,a),(54,b),(60,c),(61,d)])) (h1:zi st cd []):Bo st gd
structure Ot (st:AS) (sc b:Nat):Prop where
 sc:∃dx gd lk v w,st sc=some (.inst 4 dx [(27,.ref b),(50,.ref gd),(51,v),(52,.ref lk),(36,.int 1),(53,.int 0),(32,w)])/\Bo st gd/\∃dy x y,st lk=some (.inst 3 dy [(37,.str [108,105,103,97,116,117,114,101]),(47,.int 0),(48,x),(49,y)])
theorem Bo.le (h:Bo b a) (e:eD b q):Bo q a:=let ⟨k,g,l,i,c,d,f,j⟩:=h;⟨k,g,l,i,c,d,e _ _ f,j.le e⟩
variable {aE:List Inf}
theorem yK.le (h:yK b C aE) (e:eD b q):yK q C aE:=⟨h.1,λi r a=>let ⟨I,c,f,d⟩:=h.2 i r a;⟨I,c,f,e _ _ d⟩⟩
theorem Buf.grow (h:Buf b q a d o p C aE) (c:eD q ax):Buf b ax a d o p C aE:=
 ⟨b4 h.le c,c _ _ h.obj,c _ _ h.lst,h.inf.le c,h.nd,h.fb,h.fw,h.fr,h.len⟩
theorem Buf.at_ (h:Buf b q a d o p C aE) (c:I<aE.length):∃r,C[I]? =some r/\(C.map AV.ref)[I]? =some (.ref r)/\pH q r aE[I]:=by
 have i:I<C.length:=h.inf.1▸c
 have e:=dj i
 refine eS (h.inf.2 I _ e) λj f g=>?_
 rw [dj c] at f
 obtain rfl:=d5 f
 exact gr _ e (by rw [ee,e];rfl) g
theorem zo (h:Bo b d) (e:n (.int 0) b):eE PG (a+5) (.fn 67) [.ref d,.int p] b n:=by
 obtain ⟨l,r,m,s,c,j,i,f⟩:=id h
 obtain ⟨q,o,g,k⟩:=id f
 refine gP [some (.ref d),some (.int p),none] (df 2 _) rfl rfl (g9 (l:=.int 0) (λn e=>jr (eO (a5 rfl) i rfl) g rfl rfl rfl (iJ (a5 rfl)) (sd (df 3 _) f e)) (ej _ rfl (.ord rfl ⟨_,.bool _,_,ed _,e⟩)))
theorem Bp (f:∀e,eD b e->n (.int 0) e):eE PG (a+3) (.fn 22) [.int 0] b n:=by
 refine gP [some (.int 0)] (df 2 _) rfl rfl (gr [(1,.int 2),(2,.int 4),(3,.int 8)] rfl (by decide) (λc h=>?_))
 have d:=fN (ay:=.dict ([(1,.int 2),(2,.int 4),(3,.int 8)].map λp:Int×AV=>(.int p.1,p.2))) h
 exact .dict d.at_ (.inl rfl) (Dg _ rfl _ d.at_ (.G' (λp g=>by refine iQ p (ck.mp g) λq _=>?_;exact ⟨_,rfl⟩) (.inr ⟨by simp,_,ed _,f _ d.le⟩)))
noncomputable def Ee (g:Int):AV:=.tup [.str [103,108,121,112,104],.int g]
noncomputable def Gd (w:g_):AV:=.tup (w.map Ee)
theorem PY (h:Al i e b (.bin bM g D) λv _=>v= .int 0):At i e b (.bin bM g D) false:=λQ a=>h _ λv d f c=>by subst c;exact ej _ (.int 0) (a d f)
theorem PZ (c:aw=decide (p<=aB)) (Q:Bool->Prop) (a:Q aw):pW b Q .le (.int p) (.int aB):=.ord (congrArg some c.symm) a
theorem P0 {p:Og} (h:VE PG i g e b λv b=>VE PG i D e b λw b=>pW b (λr=>if r then VE PG i aL e b λu b=>pW b (λr=>∃t,nN b (.bool r) t/\bK t b) p w u else ∃t,nN b (.bool false) t/\bK t b) bI v w):VT PG i (.EP g bI D p aL) (VE PG i (.EP g bI D p aL)) e b bK:=h
theorem zI (h:Bo b d) (k:b o=some (.inst 3 I [(37,l),(47,.int 0),(48,af),(49,b7)])):Cl (eE PG (a+6)) (.fn 23) [.ref d,.ref o,.int p] b λj _=>j= .bool false:=by
 refine jO [some (.ref d),some (.ref o),some (.int p),none,none] (df _ _) rfl rfl λl g R m=>?_
 (injection g with g;subst g)
 obtain ⟨u,x,w,y,c,r,q,s⟩:=id h
 refine g9 (l:=.int 0) (λQ e=>jr (a5 rfl) q rfl rfl rfl (iJ (a5 rfl)) (zo (a:=a) h e)) ?_
 refine pG (aw:=false) (PY λQ e=>wq (eO (a5 rfl) k rfl) (g7 d3 (iJ (a5 rfl)) (Bp (a:=a+2) λi f=>.int rfl (e _ i f rfl)))) λi f=>⟨(by intros;contradiction),λ_=>?_⟩
 exact s_end (ki (aw:=true) (f' (fV (a5 rfl) d3 (ne_int rfl))) (λ_=>iM d3 (m _ _ _ f rfl)) (by intros;contradiction))
theorem Ge (c:Buf b q o I ak p C aE) (B:Ot b d o) (s:aI<aE.length):Cl (eE PG (a+7)) (.fn 24) [.ref d,.int aI] q λv _=>v= .bool false:=by
 refine jO [some (.ref d),some (.int aI)] (df _ _) rfl rfl λk e R z=>?_
 (injection e with e;subst e)
 refine zQ B.sc λE H G v w i=>mW i λA j u=>Ig u λD x y h=>?_
 obtain ⟨r,K,m,J,l⟩:=c.at_ s
 have f:=c.le _ _ A
 exact sg (gy d3 (vD (eO (a5 rfl) f rfl) (eO (a5 rfl) f rfl) (eO (ft (eO (eO (a5 rfl) f rfl) c.obj rfl) c.lst (a5 rfl) m) l rfl)) (zI (a:=a) (j.le c.le) (c.le _ _ h))) λv F g t=>z _ _ _ g t
theorem eq_str (a:∀c∈C,c<128) (Q:Bool->Prop) (d:Q true):pW b Q .eq (.str C) (.str C):=.eq (.plain (.str _ C a) (.str _ C a) true ⟨λ_=>rfl,λ_=>rfl⟩) d
theorem CZ (c:n (.bool (decide (p=aB))) b):eE PG (a+3) (.fn 26) [Ee p,.int aB] b n:=
 gP [some (Ee p),some (.int aB)] (df 2 _) rfl rfl (ki (aw:=true) (f' (fV (pq (a:=0) (a5 rfl) d3 rfl) d3 (eq_str (by decide)))) (λ_=>iM (fV (pq (a:=1) (a5 rfl) d3 rfl) (a5 rfl) (eq_int rfl)) (ej _ (ed _) c)) (by intros;contradiction))
variable {cq:Inf}
theorem HU (h:Ot b d o) (f:eD b q) (c:pH q I cq) (e:n (.bool true) q):eE PG (a+3) (.fn 27) [.ref d,.ref I] q n:=by
 refine Af h.sc λl j i v w g _=>?_
 obtain ⟨m,c⟩:=c
 exact gP [some (.ref d),some (.ref I)] (df 2 _) rfl rfl (iM (fV (ia (bZ:=1) (eO (a5 rfl) c rfl) (eO (a5 rfl) (f _ _ g) rfl) rfl) d3 (ne_int rfl)) (ej _ (ed _) e))
theorem HV (f:av.length<=fF):Cl (eE PG (a+3)) (.fn 25) [tI av] b λv _=>v=Gd av:=by
 refine jO [some (tI av)] (df _ _) rfl rfl λk d R i=>?_
 (injection d with d;subst d)
 refine sg (p3 (a:=a+1) (n:=λv _=>v=Gd av) (qo (tw (λ_=>true) Ee av AV.int f (n:=λv _=>v=tI av) (jG (a5 rfl) rfl) (λv j _ e=>(ej .tup (λ_ _=>trivial) (by rw [e];exact λQ h=>.tup h))) λg _ j _=>(gr _ rfl xB (λ_ m _=>jG (g6 (iL d3 (a5 rfl))) rfl))) λv s _ c=>?_) λ_ _=>rfl) λv s l c=>i _ _ _ l c
 rwa [jv.mpr λ_ _=>rfl] at c
theorem HW (e:Buf b q o I ak p C aE) (D:Ot b d o):
 Cl (eE PG (a+8)) (.fn 28) [.ref d,.int aI,.int 1,Ee aB,.tup [.str [122,119,106],.str [104,105,100,100,101,110]],.bool true] q λM _=>M=if (aE.map (·.g))[aI+1]? =some aB then .int (aI+1:Nat) else .int (-1):=by
 refine jO [some (.ref d),some (.int aI),some (.int 1),some (Ee aB),some (.tup [.str [122,119,106],.str [104,105,100,100,101,110]]),some (.bool true),none,none] (df _ _) rfl rfl λk A R l=>?_
 (injection A with A;subst A)
 refine Af D.sc λdx gd lk M w h1 _=>?_
 refine g9 (l:=.int (aI+1:Nat)) (ia (a5 rfl) (a5 rfl) rfl) (oN 0 (λN j s=>s=q/\j=[some (.ref d),some (.int aI),some (.int 1),some (Ee aB),some (.tup [.str [122,119,106],.str [104,105,100,100,101,110]]),some (.bool true),some (.int (aI+1:Nat)),none]) ⟨rfl,rfl⟩ ?_)
 intro N j s V K Z;clear Z;obtain ⟨rfl,rfl⟩:=V
 have kl:=e.le _ _ h1
 have G:∀{X:Ak} {j:MM} {H:AS},eD s H->j[0]? =some (some (.ref d))->Ev X j H (.attr (.attr (.var 0) 27) 28) (.ref ak):=λL S=>eO (eO (a5 S) (L _ _ kl) rfl) (L _ _ e.obj) rfl
 refine ej (decide (aI+1<aE.length)) (λQ g=>?_) (λs1 r=>⟨λE=>?_,λE=>?_⟩)
 .have O:=jd (a:=a+6) (G (j:=[some (.ref d),some (.int aI),some (.int 1),some (Ee aB),some (.tup [.str [122,119,106],.str [104,105,100,100,101,110]]),some (.bool true),some (.int (aI+1:Nat)),none]) (ed _) rfl) (f9 e.lst)
  rw [bb,e.inf.1] at O
  refine P0 (d3 _ (a5 rfl _ (PZ (decide_eq_true (gE (aI+1))).symm _ ?_)))
  rw [if_pos rfl]
  exact O _ (n_ (decide_eq_decide.mpr h9.symm) _ (ej _ (.bool _) (g _ (ed _))))
 .have z:=of_decide_eq_true E
  have e:=e.grow r
  refine gj (e.at_ z) λri hr T i=>?_
  have P:(aE.map (·.g))[aI+1]? =some aE[aI+1].g:=by rw [ee,dj z];rfl
  rw [P] at l
  refine pG (aw:=true) (yx (aw:=false) (rN (gy d3 (iL (a5 rfl) (a5 rfl)) (Ge (a:=a) e D z)))) λY u=>⟨λ_=>?_,(by intros;contradiction)⟩
  have e:=e.grow u
  have y:=b4 r u
  have i:pH Y ri aE[aI+1]:=let ⟨W,i⟩:=i;⟨W,u _ _ i⟩
  obtain ⟨dr,J⟩:=id i
  refine g9 (ft (G y rfl) e.lst (a5 rfl) T) ?_
  refine ki (aw:=decide (aB=aE[aI+1].g)&&true) (yu (λQ g=>g7 d3 (iL (a5 rfl) (eO (a5 rfl) J rfl)) (CZ (a:=a+4) (ej _ (.bool _) g))) λ_=>MS (aw:=true) (bN:=true) (λQ g=>g7 d3 (iL (a5 rfl) (a5 rfl)) (HU (a:=a+4) D e.le i (ej _ (.bool _) g))) (by intros;contradiction)) (λf=>?_) λf=>?_
  .rw [Q3,decide_eq_true_iff] at f
   exact iM (a5 rfl) (l _ _ _ y (if_pos (congrArg some f.symm)).symm)
  .rw [Q3,decide_eq_false_iff_not] at f
   have F:∀s:List Nat,(∀km∈s,km<128)->Plain (.str s):=λs U=>.str _ s U
   refine s_end (ki (aw:=true) (f' (fV (eO (a5 rfl) J rfl) (a5 rfl) λQ g=>.Cf (.tup (.str _ _ (by decide)) (λx f=>?_) false ⟨(by intros;contradiction),λh=>?_⟩) g)) (λ_=>iM (wm d3) (l _ _ _ y (if_neg λB=>f (d5 B).symm).symm)) (by intros;contradiction))
   .cases f with
    |head=>exact F _ (by decide)
    |tail _ f=>
     cases f with
     |head=>exact F _ (by decide)
     |tail _ f=>exact (eg f).elim
   .cases h with
    |tail _ h=>
     cases h with
     |tail _ h=>exact (eg h).elim
 .refine iM (wm d3) (l _ _ _ r (if_neg λB=>?_).symm)
  exact of_decide_eq_false E (by have:=gz B;rwa [bb] at this)
theorem prefix_at {X:List h} (a:dq++dp::dT<+:X):X[dq.length]? =some dp:=by
 refine j_ a λs b=>?_;subst b
 rw [eC,fk (eJ _),jB];rfl
theorem Gf (b:dq<+:dT) (a:dT[dq.length]? =some dp):dq++[dp]<+:dT:=by
 obtain ⟨s,rfl⟩:=b
 rw [fk (eJ _),jB] at a
 induction s using el with
 |nil=>contradiction
 |cons x s=>(injection a with a;subst a);exact oK s (by rw [eC];rfl)
noncomputable def js (at_ k:Nat):List AV:=(eQ k).map λi=>sj (at_+i)
theorem NH (f:Ev i e b g (.tup j)) (d:Ev i e b D (.int a)):Ev i e b (.tY g D (.cst .none)) (.tup (j.drop a)):=λQ c=>f _ (d _ (.tup AU c))
theorem Jh (m:Ev i e b g (.ref a)) (l:b a=some (.list j)) (k:Ev i e b D (.int d)):Al i e b (.tY g D (.cst .none)) (gO b (j.drop d)):=λQ h=>MU m l k λc f=>h _ _ (mV f.1) (ej c rfl ((fN f).own (ed _)))
theorem z4 (f:Ev i e b g (.ref a)) (d:b a=some (.list (j++[l]))):Ev i e b (.sub g (.neg (.cst (.int 1)))) l:=DP f (wm d3) λQ c=>.list d (by
 unfold itemAt
 rw [if_neg (by decide),if_pos (show (-1:Int).natAbs<=(j++[l]).length by rw [bh];exact df _ _),bh]
 exact jz) c
theorem p8 (a k:Nat):js a (k+1)=js a k++[sj (a+k)]:=by unfold js;rw [List.range_succ,b_];rfl
theorem HX (g:Buf b q o I ak p C aE) (O:Ot b d o) (u:(aE.map (·.g))[aI]? =some aB) (W:av.length<=1000):
 Cl (eE PG (a+9)) (.fn 29) [.ref d,.int aI,Gd (aB::av)] q λv km=>(av<+:(aE.map (·.g)).drop (aI+1)/\∃c,v= .ref c/\i0 q km c (.list (js aI (av.length+1))))\/(¬av<+:(aE.map (·.g)).drop (aI+1)/\v= .none):=by
 refine jO [some (.ref d),some (.int aI),some (Gd (aB::av)),none,none,none] (df _ _) rfl rfl λku B R M=>?_
 (injection B with B;subst B)
 have F:aI<aE.length:=by have:=gz u;rwa [bb] at this
 obtain ⟨ri,kx,U,dr,T⟩:=g.at_ F
 have Z:aB=aE[aI].g:=by rw [ee,dj F] at u;exact (d5 u).symm
 refine Af O.sc λdx gd lk v w X _=>?_
 have kn:=g.le _ _ X
 refine pG (aw:=false) (yx (aw:=true) (rN λQ P=>g7 d3 (iL (pq (a:=0) (a5 rfl) d3 rfl) (eO (ft (eO (eO (a5 rfl) kn rfl) g.obj rfl) g.lst (a5 rfl) U) T rfl)) (CZ (a:=a+5) (P _ _ (ed _) (congrArg _ (decide_eq_true Z)))))) λs1 J=>⟨(by intros;contradiction),λ_=>s_end ?_⟩
 refine sF (iJ (a5 rfl)) λc s2 L=>oS (NH (a:=1) (a5 rfl) d3) (iG .tup av Ee (λQ h=>.tup h) (λD m s=>eD q s/\i0 q s c (.list (js aI (D.length+1)))/\D<+:(aE.map (·.g)).drop (aI+1)/\∃A r,m=[some (.ref d),some (.int aI),some (Gd (aB::av)),some (.ref c),A,r]) (wQ (b4 J L.le) (L.own J) uj _ _ rfl) (λ_ _ _ _=>trivial) ?_ ?_)
 .intro D i r' m s3 H kl K V;refine zR m kl λf e z A r=>?_
  refine ej _ rfl ?_
  have G:=e.at_
  rw [p8] at G
  refine yy (gy d3 (oF (a5 rfl) (oF (z4 (a5 rfl) G) (oF d3 (vD (a5 rfl) d3 d3)))) (HW (a:=a) (aI:=aI+D.length) (g.grow f) O)) λv s4 y l=>?_
  have N:∀x,(aE.map (·.g))[aI+D.length+1]? =some x↔((aE.map (·.g)).drop (aI+1))[D.length]? =some x:=λx=>by
   rw [pb,g0]
  have Y:D.length<av.length:=by rw [H,bh,e_];exact gk (fB _)
  by_cases j:(aE.map (·.g))[aI+D.length+1]? =some i
  .rw [if_pos j] at l
   subst l
   have o4:=e.le y
   refine ki (aw:=false) (f' (fV (a5 rfl) d3 (n_ (decide_eq_false (nr.mpr (gE _))).symm))) (by intros;contradiction) λ_=>s_end (qC (a5 rfl) o4.at_ ?_ (a5 rfl) λs5 E=>V _ _ (wQ (E.le (b4 f y) e.fr) ?_ (Gf z ((N i).mp j)) _ _ rfl))
   .unfold js;rw [bb,ff];exact c_ (a_ Y W) (by unfold fF;decide)
   .rw [bh,show D.length+[i].length+1=(D.length+1)+1 from rfl,p8]
    exact E.own e.fr
  .rw [if_neg j] at l
   subst l
   exact ki (aw:=true) (f' (fV (a5 rfl) d3 (n_ rfl))) (λ_=>iM d3 (M _ _ _ (b4 f y) (.inr ⟨λkq=>j ((N i).mpr (prefix_at (H▸kq))),rfl⟩))) (by intros;contradiction)
 .intro m s3 S;refine zR m S λf e z A r=>?_
  exact iM (a5 rfl) (M _ _ _ f (.inl (tO z c rfl e)))
theorem Bq (c:pH b d cq) (f:cq.id=0) (e:n (.bool false) b):eE PG (a+3) (.fn 30) [.ref d] b n:=by
 obtain ⟨g,c⟩:=c
 refine gP [some (.ref d)] (df 2 _) rfl rfl (iM (l:=.bool false) (Nm (aw:=false) (bN:=false) (fV (eO (a5 rfl) c rfl) d3 (ne_int (by rw [f];rfl))) (by intros;contradiction)) (ej _ (ed _) e))
theorem vu (b:o<d):(js a d)[o]? =some (.int (a+o:Nat)):=by unfold js;rw [ee,ju b];rfl
theorem B2 (G:b d=some (.list (C.map .ref))) (H:yK b C aE) (J:b o=some (.list (js I (ak+1)))) (L:I+ak<aE.length) (P:∀j c,I<=j->aE[j]? =some c->c.id=0):
 Cl (eE PG (a+5)) (.fn 31) [.ref d,.ref o] b λv _=>v= .bool true:=by
 have F:∀j,I+j<aE.length->∃r c,(C.map AV.ref)[I+j]? =some (.ref r)/\pH b r c/\c.id=0:=λj hj=>by
  have hr:I+j<C.length:=H.1▸hj
  have e:=dj hr
  refine eS (H.2 _ _ e) λc z g=>?_
  exact nu _ c (by rw [ee,e];rfl) g (P _ c (eh _ _) z)
 refine jO [some (.ref d),some (.ref o),none,none,none] (df _ _) rfl rfl λk' u R hR=>?_
 (injection u with u;subst u)
 refine jS (F 0 (c_ (eh _ _) L)) λr0 I0 z g O=>?_
 refine g9 (ft (a5 rfl) G (ft (d:=0) (a5 rfl) J d3 (vu (fB _))) z) (q_ (Jh (d:=1) (a5 rfl) J d3) λv T B hv=>?_)
 refine jj v hv λc1 A=>?_
 have km:(js I (ak+1)).drop 1=(eQ ak).map λi=>sj (I+(1+i)):=by
  unfold js
  rw [<-oU,ue,List.drop_succ_cons,rF,et]
  exact fm λi _=>by show sj (I+(i+1))=_;rw [eY i]
 rw [km] at A
 refine iG (.list c1 _) (eQ ak) (λi=>sj (I+(1+i))) (λQ=>gI A.at_) (λD m s=>eD T s/\∃x q,m=[some (.ref d),some (.ref o),some (.ref r0),x,q]) ⟨(ed _),_,_,rfl⟩ (λ_ _ _ h=>h.1 _ _ A.at_) ?_ ?_
 .intro D y r' m W hD kl K Z;refine Cb kl λl x q f=>?_;subst f
  refine Qm y (rj hD) λM=>?_
  refine jS (F (1+D.length) (by exact y3 L M)) λry Iy S f g3=>?_;obtain ⟨N,V⟩:=f
  have w:=b4 B l
  obtain ⟨X,g⟩:=g
  refine ej _ rfl (g9 (ft (a5 rfl) (w _ _ G) (a5 rfl) S) ?_)
  refine pG (aw:=false) (rN λQ p=>g7 d3 (iJ (a5 rfl)) (Bq (a:=a+1) ⟨X,w _ _ g⟩ O (p _ _ (ed _) rfl))) λs3 E=>⟨(by intros;contradiction),λ_=>?_⟩
  have Y:=b4 w E
  exact ki (aw:=false&&false) (yu (λQ p=>g7 d3 (iJ (a5 rfl)) (Bq (a:=a+1) ⟨N,Y _ _ V⟩ g3 (ej _ (.bool _) p))) (by intros;contradiction)) (by intros;contradiction) λ_=>Z _ _ ⟨(b4 l E),_,_,rfl⟩
 .intro m W U;refine Cb U λl x q f=>?_;subst f
  exact iM d3 (hR _ _ _ (b4 B l) rfl)
noncomputable abbrev Kp:AV:=.str [108,105,103,97,116,117,114,101]
noncomputable def uU (is is':List Inf):Prop:=is'.length=is.length/\∀(j:Nat) I',is'[j]? =some I'->∃I,is[j]? =some I/\I'.g=I.g/\I'.id=I.id
theorem uU.refl (a:List Inf):uU a a:=⟨rfl,λj I h=>(gr I h rfl rfl)⟩
variable {cO:List Inf}
theorem uU.trans {c:List Inf} (h:uU aE cO) (a:uU cO c):uU aE c:=⟨a.1.trans h.1,λj I f=>by
 refine gj (a.2 j I f) λJ k g e=>?_
 refine gj (h.2 j J k) λK i d b=>?_
 exact (gr K i (g.trans d) (e.trans b))⟩
theorem NI {c:Inf} (e:aE[a]? =some cq) (h:c.g=cq.g/\c.id=cq.id):uU aE (aE.set a c):=⟨gJ,λj J b=>by
 rw [nK] at b
 by_cases d:a=j
 .subst d
  rw [if_pos rfl,if_pos (gz e)] at b
  obtain rfl:=d5 b;exact ej cq e h
 .rw [if_neg d] at b;exact (gr J b rfl rfl)⟩
theorem Buf.upd {I':Inf} (h:Buf b q a d o p C aE) (g:C[ak]? =some I) (f:BY q ax I) (w:pH ax I I'):Buf b ax a d o p C (aE.set ak I'):=by
 obtain ⟨y,t,z,k⟩:=h.inf.2 ak I g
 have n:=h.fr I (fi g)
 refine ⟨λx v e=>(f x λc=>by rw [c,n] at e;contradiction).trans (h.le x v e),(f a λc=>by have:=oj h.obj (c▸k);(injection this;contradiction)).trans h.obj,(f o λc=>by have:=oj h.lst (c▸k);contradiction).trans h.lst,⟨by rw [gJ];exact h.inf.1,λj r i=>?_⟩,h.nd,h.fb,h.fw,h.fr,by rw [gJ];exact h.len⟩
 obtain ⟨J,m,u,s⟩:=h.inf.2 j r i
 rw [nK]
 by_cases l:ak=j
 .clear h f k n m s;subst l
  rw [g] at i;obtain rfl:=d5 i
  rw [if_pos rfl,if_pos (gz t)]
  exact ej I' rfl w
 .rw [if_neg l]
  exact ⟨J,m,u,(f r λc=>l (yF h.nd g (c▸i))).trans s⟩
theorem Buf.with (h:Buf b q a d o p C aE) (k:eD q ax) (j:i0 q ax I ay):Buf (b.set I ay) ax a d o p C aE:=by
 have c:∀x f,q x=some f->b x=none->(b.set I ay) x=none:=λx f e s=>(gw λt=>by rw [t,j.fr] at e;contradiction).trans s
 have g:=h.grow k
 refine ⟨(tD h.le k j).2,g.obj,g.lst,g.inf,g.nd,c _ _ h.obj h.fb,c _ _ h.lst h.fw,λr l=>?_,h.len⟩
 obtain ⟨i,n⟩:=eZ.mp l
 obtain ⟨u,_,v,m⟩:=h.inf.2 i r n
 exact c _ _ m (h.fr r l)
theorem Buf.base (h:Buf ax q a d o p C aE) (c:eD b ax):Buf b q a d o p C aE:=
 ⟨b4 c h.le,h.obj,h.lst,h.inf,h.nd,jE c h.fb,jE c h.fw,λr e=>jE c (h.fr r e),h.len⟩
theorem Buf.zip (h:Buf b q a d o p C aE):C.map AV.ref=(C.zip aE).map (λc=>.ref c.1)/\∀c∈C.zip aE,pH q c.1 c.2:=by
 constructor
 .rw (config:={}) [show (λc:Nat×Inf=>AV.ref c.1)=AV.ref∘yX from rfl,<-et,List.map_fst_zip (gv h.inf.1)]
 .intro c f
  refine j_ (eZ.mp f) λi k=>?_
  obtain ⟨l,g⟩:=List.getElem?_zip_eq_some.mp k
  refine eS (h.inf.2 i _ l) λI e j=>?_
  rw [g] at e;obtain rfl:=d5 e
  exact j
theorem Gg (r:Al i e b g (gO b j)) (q:∀x∈j,Plain x) (m:∀f,eD b f->n (.bool (!decide (j=[]))) f):Al i e b (.cmp g .ne (.lst .nil)) n:=
 AW r λv u o s=>by
  refine jj v s λc p=>?_
  exact λQ k d a=>k _ _ (mV a.1) λt l=>.ne (.list ((fN a).le _ _ p.at_) (fN a).at_ q (λ_ h=>absurd h eg) _ decide_eq_true_iff) (l _ (m _ (b4 o (fN a).le)))
theorem NJ (h:Bo b d) (w:b o=some (.list (av.map .int))) (s:2<=av.length) (y:av.length<=fF):Cl (eE PG (a+6)) (.fn 37) [.ref d,.ref o] b λA _=>A=Kp:=by
 refine jO [some (.ref d),some (.ref o)] (df _ _) rfl rfl λJ p R B=>?_
 (injection p with p;subst p)
 refine pG (aw:=true) (wo (Gg (FI (λ_=>true) AV.int (dq:=av.drop 1) (dE:=AV.int) (a_ (by rw [ey];exact jQ _ _) y) (by have:=Jh (i:=eE PG (a+5)) (e:=[some (.ref d),some (.ref o)]) (g:=.var 1) (D:=.cst (.int 1)) (d:=1) (a5 rfl) w d3;rwa [<-oU] at this) λg _ r j=>(gr [none,some (.int g),some (.ref d)] rfl (tv (pw (f' (fV (l:=.int 0) (λQ u=>?_) d3 (ne_int rfl))))) (λ_ E _=>jG (a5 rfl) rfl))) (λx z=>?_) λr j=>?_)) λr j=>⟨λ_=>iM d3 (B _ _ _ j rfl),(by intros;contradiction)⟩
 .obtain ⟨G,I,H,K,c,D,C,F⟩:=h.le j
  exact jr (a5 rfl) C rfl rfl rfl (iJ (a5 rfl)) (zo (a:=a) (h.le j) u)
 .refine iQ x (ck.mp z) λg _=>?_;exact .int _ _
 .rewrite [jv.mpr λ_ _=>rfl,decide_eq_false λq=>?_]
  .rfl
  .have:=congrArg fj q
   rw [bb,ey] at this
   exact x8.mpr s (nH this)
theorem yL (c:pH b d cq) (g:∀f e,BY b e d->pH e d f->f.g=cq.g/\f.id=cq.id->n .none e):eE PG (a+3) (.fn 15) [.ref d,.int p] b n:=by
 obtain ⟨h,c⟩:=c
 refine gP [some (.ref d),some (.int p)] (df 2 _) rfl rfl (ki (f' (fV (eO (a5 rfl) c rfl) (a5 rfl) (ne_int rfl))) (λ_=>?_) λ_=>(ej _ (ed _) (g cq b (λ_ _=>rfl) ⟨h,c⟩ ⟨rfl,rfl⟩)))
 refine iq (a5 rfl _ (i8 (a5 rfl) c λl u1=>iq (d3 _ (i8 (a5 rfl) u1.at_ λk u2=>(ej _ (ed _) (g ⟨cq.g,p,false,cq.id,cq.part,cq.cnt⟩ k (λj i=>(u2.ne j i).trans (u1.ne j i)) ⟨h,u2.at_⟩ ⟨rfl,rfl⟩))))))
theorem B3 (c:Buf b q d o I p C aE) (k:∀h,Buf b h d o I (p+1) C aE->n (.int (p+1)) h):eE PG (a+3) (.fn 13) [.ref d] q n:=by
 refine gP [some (.ref d)] (df 2 _) rfl rfl (iq (ia (eO (a5 rfl) c.obj rfl) d3 rfl _ (i8 (a5 rfl) c.obj λs u1=>iM (eO (a5 rfl) u1.at_ rfl) (ej _ (ed _) (k s ?_)))))
 refine ⟨u1.le c.le c.fb,u1.at_,(u1.ne I λf=>by have e:=c.lst;rw [f,c.obj] at e;(injection e;contradiction)).trans c.lst,⟨c.inf.1,λi r m=>?_⟩,c.nd,c.fb,c.fw,c.fr,c.len⟩
 obtain ⟨l,e,j,g⟩:=c.inf.2 i r m
 exact ⟨l,e,j,(u1.ne r λf=>by have:=oj g (f▸c.obj);(injection this;contradiction)).trans g⟩
theorem zJ (e:pH b d cq) (c:n (.int (max cq.cnt 1)) b):eE PG (a+3) (.fn 36) [.ref d] b n:=by
 obtain ⟨f,e⟩:=e
 exact gP [some (.ref d)] (df 2 _) rfl rfl (iM (xw d3 (iL (eO (a5 rfl) e rfl) d3) λn c=>jI (a:=a+1) (.mk (.mk (.mk c)))) (ej _ (ed _) c))
theorem zK {e:Int} (d:n .none b):eE PG (a+3) (.fn 39) [l,.int p,.int 0,.int aB,.int bZ,.int e] b n:=by
 refine gP [some l,some (.int p),some (.int 0),some (.int aB),some (.int bZ),some (.int e),none] (df 2 _) rfl rfl (g9 (a5 rfl) (oN 0 (λN m s=>s=b/\m=[some l,some (.int p),some (.int 0),some (.int aB),some (.int bZ),some (.int e),some (.int p)]) ⟨rfl,rfl⟩ ?_))
 intro N m s g K h;refine KV s m g ?_
 refine ej (false&&false) (λn d=>yu (aw:=false) (bN:=false) (f' (fV (a5 rfl) d3 (xJ rfl))) (λbZ=>nomatch bZ) _ (d _ (ed _))) (λi f=>⟨(by intros;contradiction),λ_=>⟨_,f,d⟩⟩)
noncomputable def Ss (is:List Inf) (i:Nat):Int:=((is[i]?).map Inf.cl).getD 0
theorem Kq (h:0<a):((a:Int) -1)=((a -1:Nat):Int):=by exact (Sg h).symm
theorem min_mem:∀(l:List Int),l≠[]->∃m∈l,∀x∈l,m<=x
 |[x],_=>ej x (.head _) (λy c=>by rw [dt.mp c];exact v7 _)
 |x::y::l,_=>by
  refine eS (min_mem (y::l) (qb _ _)) λm d b=>?_
  rcases S2 m x with h |h
  .exact ej m (.tail _ d) (λz a=>(eK.mp a).elim (λe=>e▸h) (b z))
  .exact ej x (.head _) (λz a=>(eK.mp a).elim (λe=>e▸v7 _) λa=>jD h (b z a))
theorem Ji (n:b a=some (.list (C.map .ref))) (c:yK b C aE) (h:e[o]? =some (some (.ref a))) (p:Ev i e b g (.int d)) (k:d<aE.length):Ev i e b (.attr (.sub (.var o) g) 35) (.int (Ss aE d)):=by
 have l:d<C.length:=c.1▸k
 have f:=dj l
 obtain ⟨I,m,q,j⟩:=c.2 _ _ f
 unfold Ss
 rw [m]
 exact eO (ft (a5 h) n p (by rw [ee,f];rfl)) j rfl
theorem yK.We (h:b a=some (.list (C.map .ref))/\yK b C aE) (c:eD b q):q a=some (.list (C.map .ref))/\yK q C aE:=⟨c _ _ h.1,h.2.le c⟩
theorem Ef (i:b d=some (.list (C.map .ref))/\yK b C aE) (J:o<I) (B:I<=aE.length):Cl (eE PG (a+4)) (.fn 16) [.ref d,.int o,.int I] b λV _=>∃f c:Nat,f<=o/\I<=c/\c<=aE.length/\V= .tup [.int f,.int c]:=by
 have Y:∀{m:MM} {s:AS},eD b s->m[0]? =some (some (.ref d))->Ev (eE PG (a+3)) m s (.call (.cst (.bi 0)) (.cons (.var 0) .nil)) (.int aE.length):=λe q=>by
  have:=jd (a:=a+2) (a5 q) (f9 (e _ _ i.1))
  rwa [bb,i.2.1] at this
 have u:∀{m:MM} {s:AS} {j l:Nat},m[j]? =some (some (.int l))->0<l->Ev (eE PG (a+3)) m s (.bin .sub (.var j) (.cst (.int 1))) (.int (l -1:Nat)):=λq W Q M=>ia (a5 q) d3 rfl _ (by rw [Kq W];exact M)
 refine jO [some (.ref d),some (.int o),some (.int I),none,none] (df _ _) rfl rfl λk' x R S=>?_
 (injection x with x;subst x)
 refine g9 (a5 rfl) (g9 (a5 rfl) (oN (aE.length -I) (λN m s=>eD b s/\∃c:Nat,m=[some (.ref d),some (.int o),some (.int I),some (.int o),some (.int c)]/\I<=c/\c<=aE.length/\N=aE.length -c) (wR (ed _) I rfl (eJ _) B rfl) ?_))
 intro N m s T K U;refine OK T λe c p y E P=>?_;subst p;subst P
 have L:0<c:=ei (c_ (fy _) J) y
 refine iK (yK.We i e) λh g=>?_
 refine ej (decide (c<aE.length)&&decide (Ss aE c=Ss aE (c -1))) (pw (yu (f' (fV (a5 rfl) (Y e rfl) (n_ (decide_eq_decide.mpr h9.symm)))) λw=>f' (fV (Ji h g rfl (a5 rfl) (of_decide_eq_true w)) (Ji h g rfl (u rfl L) (ei (kf L j9) E)) (eq_int rfl)))) (λs1 A=>⟨λz=>?_,λ_=>?_⟩)
 .have F:=of_decide_eq_true (qr.mp z).1
  exact g9 (ia (bZ:=((c+1:Nat):Int)) (a5 rfl) d3 rfl) (U _ _ _ (i3 F (fH c)) (wR (b4 e A) (c+1) rfl (fZ y) F rfl))
 .refine oN o (λN m s=>eD b s/\m=[some (.ref d),some (.int o),some (.int I),some (.int N),some (.int c)]/\N<=o) (iz (b4 e A) rfl (eJ _)) ?_
  intro f m s2 O K2 X;refine mW O λt p r=>?_;subst p
  refine iK (yK.We i t) λh g=>?_
  have H:f<aE.length:=c_ r (ei J B)
  refine ej (decide (0<f)&&decide (Ss aE (f -1)=Ss aE f)) (pw (yu (f' (fV (a5 rfl) (d3 (l:=.int (0:Nat))) (xJ (decide_eq_decide.mpr h9.symm)))) λw=>f' (fV (Ji h g rfl (u rfl (of_decide_eq_true w)) (c_ (jQ _ _) H)) (Ji h g rfl (a5 rfl) H) (eq_int rfl)))) (λZ D=>⟨λz=>?_,λ_=>?_⟩)
  .have G:=of_decide_eq_true (qr.mp z).1
   exact g9 (u rfl G) (X _ _ _ (kf G j9) (iz (b4 t D) rfl (a_ (jQ _ _) r)))
  .exact iM (g6 (iL (a5 rfl) (a5 rfl))) (S _ _ _ (b4 t D) (pg f c r y E rfl))
theorem C0 (n:Ev i e b g (.ref a)) (m:b a=some (.list (dq.map dE))) (k:Ev i e b D (.int d)) (l:Ev i e b aL (.int o)):Al i e b (.tY g D aL) (gO b (((dq.drop d).take (o -d)).map dE)):=λQ j=>n _ (k _ (l _ (.list m IX λc f=>j _ _ (mV f.1) (ej c rfl (by rw [<-qh,<-oU,B9];exact (fN f).own (ed _))))))
theorem P1 (k:Al i e b g n) (h:∀v a,eD b a->n v a->∃c d,v= .tup c/\jN C (.tup c) e=some d/\2<=C.length/\jo PG i ah d a ag):jo PG i (.cons (.s_ C g) ah) e b ag:=k _ λv a j f=>by
 exact h v a j f
theorem HY (c:Buf b q d o I p C aE) (B:ak+2<=aI) (L:aI<=aE.length) (R:∀O j,Buf b O d o I p C j->uU aE j->n .none O):eE PG (a+5) (.fn 17) [.ref d,.int ak,.int aI] q n:=by
 refine gP [some (.ref d),some (.int ak),some (.int aI),none,none,none,none] (df 2 _) rfl rfl ?_
 have N:ak<aI:=pJ B
 refine ki (aw:=false) (f' (fV (ia (a5 rfl) (a5 rfl) rfl) d3 (n_ (decide_eq_false (W8 B)).symm))) (by intros;contradiction) λ_=>s_end ?_
 clear B;refine iK c.zip λz1 z2=>?_
 have P:(C.zip aE).length=aE.length:=by rw [OD,c.inf.1,GX]
 have J:=c.lst
 rw [z1] at J
 refine je (jJ (xC (λg:Nat×Inf=>.int g.2.cl) (a_ (List.length_take_le' _ _) ?_) (C0 (d:=ak) (o:=aI) (eO (a5 rfl) c.obj rfl) J (a5 rfl) (a5 rfl)) (λg r s1 F=>(ej [none,some (.ref g.1)] rfl ?_)) _ λv s1 F w=>?_))
 .rw [ey,P];exact a_ (jQ _ _) (a_ c.len (by unfold fF;decide))
 .obtain ⟨kB,hd⟩:=z2 g (vG (qq r))
  exact jG (eO (a5 rfl) (F _ _ hd) rfl) rfl
 refine jj v w λc1 o1=>?_
 obtain ⟨H,kl,km⟩:=min_mem ((((C.zip aE).drop ak).take (aI -ak)).map λg=>g.2.cl) (λkx=>by
  have:=congrArg fj kx
  rw [bb,fS,ey,P] at this
  have:min (aI -ak) (aE.length -ak)=0:=this
  exact W9 N L this)
 refine jI (a:=a+3) (.mk (.mk o1.at_ ?_))
 refine gr H (λx hx=>?_) ?_ ?_
 .refine iQ x (ck.mp hx) λg r=>?_
  exact ej _ rfl (km _ (fE r))
 .refine eS (ck.mp kl) λg r e=>?_
  exact ck.mpr (ej g r (congrArg AV.int e))
 have c:=c.grow F
 refine P1 (gy d3 (vD (eO (a5 rfl) c.obj rfl) (a5 rfl) (a5 rfl)) (Ef (a:=a) ⟨c.lst,c.inf⟩ N L)) λv s2 T w=>?_
 refine nW w λk u hf kC ky U=>?_;subst U
 refine pg _ [some (.ref d),some (.int ak),some (.int aI),none,some (.int H),some (.int k),some (.int u)] rfl rfl (eJ _) ?_
 have c:=c.grow T
 refine q_ (C0 (dq:=C) (dE:=.ref) (d:=k) (o:=u) (eO (a5 rfl) c.obj rfl) c.lst (a5 rfl) (a5 rfl)) λv s3 M w=>?_
 refine jj v w λc2 G=>?_
 have ku:=(tD c.le M G).1
 have V:=c.with M G
 have kn:=gX b c2 (.list (((C.drop k).take (u -k)).map .ref))
 generalize u_ b c2 _=sb at*
 refine iG (.list c2 _) ((C.drop k).take (u -k)) .ref (λn=>gI G.at_) (λD m s=>∃j A,Buf sb s d o I p C j/\uU aE j/\m=[some (.ref d),some (.int ak),some (.int aI),A,some (.int H),some (.int k),some (.int u)]) (nu aE _ V (.refl aE) rfl) (λ_ _ _ zf=>i5 zf λ_ _ h _=>h.le _ _ kn) ?_ ?_
 .intro D y r' m Q hD kq K Y;refine Lo m kq λj A z E=>?_
  refine j_ (eZ.mp (vG (qq (mid hD)))) λi aI=>?_
  refine eS (z.inf.2 i y aI) λkz W g2=>?_
  exact ej _ rfl (FV (g7 d3 (iL (a5 rfl) (a5 rfl)) (yL (a:=a+1) g2 λI' s5 hs Z S=>Y _ _ ⟨j.set i I',_,z.upd aI hs Z,E.trans (NI W S),rfl⟩)))
 .intro m Q X;refine Lo m X λj A z E=>?_
  exact ej _ (ed _) (R Q j (z.base ku) E)
theorem vv (j:Ev (eE PG (a+1)) e b g (.int d)) (h:Ev (eE PG (a+1)) e b D (.int o)) (f:d<=1000000) (i:o<=1000000):Ev (eE PG (a+1)) e b (.call (.cst (.bi 4)) (.cons g (.cons D .nil))) (.pU d o 1):=xw d3 (iL j h) λQ c=>jI (ej [(d:Int),(o:Int)] rfl (.two ⟨f,i,c⟩))
theorem Eg (T:b d=some (.list (C.map .ref))) (Z:yK b C aE) (E:b o=some (.list (js I (ak+1)))) (A:I+ak<aE.length) (O:aE.length<=10000) (hf:∀q c,I<=q->aE[q]? =some c->c.id=0):
 Cl (eE PG (a+5)) (.fn 40) [.ref d,.ref o,Kp,.int p] b λkq _=>∃km:Int,kq= .int km:=by
 have S:∀q,I+q<aE.length->∃r c,(C.map AV.ref)[I+q]? =some (.ref r)/\pH b r c/\c.id=0:=λq hj=>by
  have hr:I+q<C.length:=Z.1▸hj
  have e:=dj hr
  refine eS (Z.2 _ _ e) λc h1 h2=>?_
  exact nu _ c (by rw [ee,e];rfl) h2 (hf _ c (eh _ _) h1)
 refine jO [some (.ref d),some (.ref o),some Kp,some (.int p),none,none,none,none,none,none] (df _ _) rfl rfl λk' M R hR=>?_
 (injection M with M;subst M)
 have U:∀{m:MM} {s:AS} {x:Nat} {c:Inf},eD b s->m[4]? =some (some (.ref x))->pH b x c->Ev (eE PG (a+4)) m s (.call (.cst (.fn 36)) (.cons (.var 4) .nil)) (.int (max c.cnt 1)):=λz w ⟨G,J⟩ Q g=>g7 d3 (iJ (a5 w)) (zJ (a:=a+1) ⟨G,z _ _ J⟩ g)
 refine jS (S 0 (c_ (eh _ _) A)) λr0 I0 g1 N g3=>?_
 obtain ⟨d0,kx⟩:=id N
 have W:∀{m:MM} {s:AS} {x:Nat} {c:Inf},eD b s->m[4]? =some (some (.ref x))->pH b x c->c.id=0->Ev (eE PG (a+4)) m s (.attr (.var 4) 24) (.int 0):=λz w ⟨G,J⟩ h0=>h0▸eO (a5 w) (z _ _ J) rfl
 have Y:(js I (ak+1)).length=ak+1:=by unfold js;rw [bb,ff]
 refine g9 (ft (a5 rfl) T (ft (d:=0) (a5 rfl) E d3 (vu (fB _))) g1) (q9 (g6 (vD d3 (U (ed _) rfl N) (W (ed _) rfl N g3))) rfl (df 2 _) (oS (vv (a:=a+3) (d3 (l:=.int (1:Nat))) (jd (a:=a+3) (a5 rfl) (f9 E)) (by decide) (by rw [Y];exact a_ (a_ (nT (c_ (df _ _) A)) O) (by decide))) ?_))
 rw [Y]
 refine iG .pU (eQ (ak+1 -1)) (λu=>.int (1+u:Nat)) (λQ g=>tr g) (λD m s=>eD b s/\∃(r4:Nat) (F H:Int) (L B:Option AV),m=[some (.ref d),some (.ref o),some Kp,some (.int p),some (.ref r4),some (.int F),some (.int H),some (.int 0),L,B]) (EJ (ed _) _ _ _ _ _ rfl) (λ_ _ _ _=>trivial) ?_ ?_
 .intro D y r' m X hD kn K hK;refine EK m kn λf r4 F H L B=>?_
  refine Qm y (rj hD) λl=>?_
  have l:D.length<ak:=l
  have P:∀{m:MM} {s:AS} {e:CE} {u:Nat},eD b s->m[1]? =some (some (.ref o))->Ev (eE PG (a+4)) m s e (.int u)->u<ak+1->Ev (eE PG (a+4)) m s (.sub (.var 1) e) (.int (I+u:Nat)):=λz w he hi=>ft (a5 w) (z _ _ E) he (vu hi)
  refine ej _ rfl (ki (aw:=true) (f' (fV (a5 rfl) d3 (eq_str (by decide)))) (λ_=>?_) (by intros;contradiction))
  refine oS (vv (a:=a+3) (d:=I+(1+D.length)) (o:=I+(1+D.length)) ?_ (P f rfl (a5 rfl) (by exact S9 (eY 1 _) (oy l))) (by exact a_ (eA (y3 A l)) (a_ O (by decide))) (by exact a_ (eA (y3 A l)) (a_ O (by decide)))) ?_
  .exact λQ g=>ia (bZ:=((I+D.length+1:Nat):Int)) (P (u:=D.length) f rfl (ia (a5 rfl) d3 (by show some (((1+D.length:Nat):Int) -1)=_;exact congrArg some Vh)) (by exact jq l)) d3 rfl Q (by rw [show I+D.length+1=I+(1+D.length) by exact y5];exact g)
  refine iG .pU [] (λu:Nat=>.int u) (λQ g=>tr (by rw [show xx (I+(1+D.length)) (I+(1+D.length))=[] by unfold xx;rw [jB];rfl];exact g)) (λ_ m s=>s=X/\m=[some (.ref d),some (.ref o),some Kp,some (.int p),some (.ref r4),some (.int F),some (.int H),some (.int 0),some (.int (1+D.length:Nat)),B]) ⟨rfl,rfl⟩ (λ_ _ _ _=>trivial) (λG y r m s e=>by rcases G with ⟨⟩<;>contradiction) ?_
  intro m s ku;refine KV s m ku ?_
  refine jS (S (1+D.length) (by exact y3 A l)) λry Iy q1 q2 q3=>?_
  exact s_end (g9 (ft (a5 rfl) (f _ _ T) (P f rfl (a5 rfl) (by exact S9 (eY 1 _) (oy l))) q1) (q9 (g6 (vD (ia (a5 rfl) (a5 rfl) rfl) (U f rfl q2) (W f rfl q2 q3))) rfl (df 2 _) (hK _ _ (EJ f _ _ _ _ _ rfl))))
 .intro m X kl;refine EK m kl λf r4 F H L B=>?_
  have V:=f _ _ E
  rw [p8] at V
  refine ki (aw:=true) (f' (fV (a5 rfl) d3 λQ g=>.ne (.plain (.str _ _ (by decide)) (.str _ _ (by decide)) false ⟨(by intros;contradiction),λh=>by (injection h;contradiction)⟩) g)) (λ_=>?_) (by intros;contradiction)
  refine FV (g7 d3 (oF (a5 rfl) (oF (ia (bZ:=((I+ak:Nat):Int)+1) (z4 (a5 rfl) V) d3 rfl) (oF (a5 rfl) (vD (a5 rfl) (a5 rfl) (a5 rfl))))) (zK (a:=a+1) (s_end (iM (ia (a5 rfl) (a5 rfl) rfl) (hR _ _ _ f (oK _ rfl))))))
noncomputable def gD (is:List Inf) (i:Nat):Int:=((is[i]?).map Inf.g).getD 0
noncomputable def VP (is:List Inf) (i:Nat):Bool:=((is[i]?).map Inf.un).getD false
noncomputable def Bs (a:Nat) (is is':List Inf):Prop:=is'.length=is.length/\∀(j:Nat) I',j≠a->is'[j]? =some I'->∃I,is[j]? =some I/\I'.g=I.g/\I'.id=I.id
theorem uU.one (h:uU aE cO) (a:Nat):Bs a aE cO:=⟨h.1,λj b _=>h.2 j b⟩
theorem Bs.set (h:Bs a aE cO) (I:Inf):Bs a aE (cO.set a I):=⟨by rw [gJ];exact h.1,λj d b c=>h.2 j d b (by rwa [iH λq=>b q.symm] at c)⟩
theorem Bs.get (h:Bs a aE cO) (e:d≠a):(cO.map (·.g))[d]? =(aE.map (·.g))[d]? :=by
 rw [ee,ee]
 induction b:cO[d]? with
 |none=>
  have:=i6.mp b
  rw [h.1] at this
  rw [i_ this]
 |some I=>
  refine gj (h.2 d I e b) λJ c f _=>?_
  rw [c];exact congrArg some f
noncomputable def wA {α:Type} (l:List α) (a k:Nat) (x:α):List α:=l.take a++x::l.drop (a+k+1)
theorem xP (g:a<=dq.length) (j:Nat):(wA dq a d dp)[j]? =if j<a then dq[j]? else if j=a then some dp else dq[j+d]? :=by
 have e:(dq.take a).length=a:=by rw [fS,j3 g]
 unfold wA
 by_cases b:j<a
 .rw [if_pos b,eN (by rw [e];exact b),Ew b]
 .rw [if_neg b,fk (by rw [e];exact iY.mp b),e]
  by_cases c:j=a
  .rw [if_pos c,c,jB];rfl
  .rw [if_neg c]
   obtain ⟨f,rfl⟩:∃f,j=a+(f+1):=⟨j -a -1,W' b c⟩
   rw [ib,tM,pb]
   exact congrArg (dq[·]?) W_
theorem Jj (f:h->t) (l:List h) (a k:Nat) (x:h):(wA l a k x).map f=wA (l.map f) a k (f x):=by unfold wA;rw [b_,eG,qh,oU]
theorem Eh (b:a+d<dq.length):(wA dq a d dp).length=dq.length -d:=by
 unfold wA
 rw [bh,e_,fS,ey];exact Xa b
theorem P2 (b:dq[a]? =some dp):(wA dq a d dp).Sublist dq:=by
 unfold wA
 have e:dq=dq.take a++dp::dq.drop (a+1):=by
  obtain ⟨c,f⟩:=ew.mp b
  rw [<-f,<-fQ c,GZ]
 conv=>rhs;rw [e]
 refine UJ (zP _ ?_) _
 rw [g0,<-ig]
 exact List.drop_sublist _ _
theorem RX (y:Al i e b cX (gO b aN)) (r:∀f,eD b f->Ev i e f g (.ref a)/\Ev i e f D (.int d)/\Ev i e f aL (.int o)) (l:b a=some (.list j)) (w:d<=o) (p:o<=j.length) (n:j.length+aN.length<=fF) (u:∀c k,eD b c->Upd c k a (.list (j.take d++aN++j.drop o))->jo PG i ah e k ag):jo PG i (.cons (.Lv g D aL cX) ah) e b ag:=y _ λv c h z=>by
 refine jj v z λA m=>?_
 refine mW (r c h) λt x s=>?_
 refine t _ (x _ (s _ ?_))
 exact .mk (h _ _ l) m.at_ (λq=>(by have:=m.fr;rw [<-q,l] at this;contradiction)) (gE d) (gS.mpr w) p n (u c _ h pv)
theorem HZ (a:Tv i e b g true) (h:VE PG i D e b n):VE PG i (.ite g D aL) e b n:=a _ h
theorem Gh (j:Ev i e b g af) (f:Al i e b D n) (h:∀v a,eD b a->n v a->i l [af,v] a bw):VE PG i (.call (.cst l) (.cons g (.cons D .nil))) e b bw:=j _ (f _ λv a d c=>h v a d c)
variable {bJ:Nat}
theorem Kr (G:Buf b q o I ak p C aE) (hS:Ot b d o) (S:b aI=some (.list (js bc (bJ+1)))) (lq:1<=bJ) (B:bc+bJ<aE.length) (hf:∀j y,bc<=j->aE[j]? =some y->y.id=0) (R:∀kV lz lr kG,Buf b kV o I ak lz lr kG->kG.map (·.g)=(aE.map (·.g)).take bc++aB::(aE.map (·.g)).drop (bc+bJ+1)->(∀j y,bc+1<=j->kG[j]? =some y->y.id=0)->n .none kV):eE PG (a+7) (.fn 41) [.ref d,.ref aI,.int aB] q n:=by
 refine zQ hS.sc λdx gd lk v w lF=>mW lF λq1 q2 q3=>?_
 have lh:=G.le _ _ q1
 have U:=G.len
 have lI:(js bc (bJ+1)).length=bJ+1:=by unfold js;rw [bb,ff]
 have kq:∀{s p C aE},Buf b s o I ak p C aE->∀c,c<aE.length->∃r y,C[c]? =some r/\(C.map AV.ref)[c]? =some (.ref r)/\pH s r y/\aE[c]? =some y:=λ{s p C aE} G c z=>by
  refine gj (G.at_ z) λr A E h3=>?_
  exact pg r (aE[c]) A E h3 (dj z)
 refine gP [some (.ref d),some (.ref aI),some (.int aB),none,none,none,none,none,none] (df 2 _) rfl rfl (g9 (eO (a5 rfl) lh rfl) (g9 (eO (a5 rfl) G.obj rfl) ?_))
 have lA:∀{s aE c},aE[c]? =some s->gD aE c=s.g:=λ{s aE c} K=>by unfold gD;rw [K];rfl
 have kn:∀{X:Ak} {m:MM} {s:AS} {e:CE} {c j:Nat},eD b s->m[j]? =some (some (.ref aI))->Ev X m s e (.int c)->c<bJ+1->Ev X m s (.sub (.var j) e) (.int (bc+c:Nat)):=λhl hm he z=>ft (a5 hm) (hl _ _ S) he (vu z)
 have kK:∀{X:Ak} {m:MM} {s:AS} {j:Nat},eD b s->m[j]? =some (some (.ref aI))->Ev X m s (.bin .add (.sub (.var j) (.neg (.cst (.int 1)))) (.cst (.int 1))) (.int (bc+bJ+1:Nat)):=λhl hm=>by
  have:=hl _ _ S
  rw [p8] at this
  exact ia (bZ:=((bc+bJ+1:Nat):Int)) (z4 (a5 hm) this) d3 rfl
 have kD:(eQ (bJ+1)).length<=fF:=by rw [ff];unfold fF;exact a_ (a_ (nT (c_ (df _ _) B)) U) (by decide)
 refine je (Gh (eO (a5 rfl) lh rfl) (tx (dq:=eQ (bJ+1)) (dE:=λc=>sj (bc+c)) (λc=>.int (gD aE (bc+c))) kD (a5 rfl) (G.le _ _ S) λc z s1 l1=>?_) λv s1 l1 N=>?_)
 .refine nW (kq G (bc+c) (by have:=eU.mp z;exact c_ (d7 (eX this) _) B)) λr y e1 e2 W e4=>?_;obtain ⟨kF,e3⟩:=W
  exact ej [none,some (.int (bc+c:Nat)),some (.ref ak)] rfl (jG (eO (ft (a5 rfl) (l1 _ _ G.lst) (a5 rfl) e2) (l1 _ _ e3) (by rw [lA e4];rfl)) rfl)
 refine jj v N λcg og=>?_
 have kY:=og.at_
 rw [show (eQ (bJ+1)).map (λc=>AV.int (gD aE (bc+c)))=((eQ (bJ+1)).map λc=>gD aE (bc+c)).map .int by rw [et];rfl] at kY
 refine NJ (a:=a) ((q2.le G.le).le l1) kY (by rw [bb,ff];exact fh lq) (by rw [bb];exact kD) _ λv s2 l2 N=>?_
 subst N
 have kM:=G.grow (b4 l1 l2)
 refine FV (g7 d3 (vD (a5 rfl) (kn (c:=0) kM.le rfl d3 (fB bJ)) (kK kM.le rfl)) (HY (a:=a+1) kM (by show bc+0+2<=_;exact fh (d7 lq _)) (nT B) λs3 L kP kH=>?_))
 have kx:=kH.1
 refine je (HZ (f' (fV (a5 rfl) d3 (eq_str (by decide)))) ?_)
 refine jr (a5 rfl) kP.obj rfl rfl rfl gQ (B3 (a:=a+3) kP λs4 ku=>?_)
 have lD:∀j y,bc<=j->L[j]? =some y->y.id=0:=λj y V hI=>by
  refine gj (kH.2 j y hI) λJ A _ E=>?_
  rw [E];exact hf j J V A
 refine yy (gy d3 (oF (a5 rfl) (vD (a5 rfl) (a5 rfl) (a5 rfl))) (Eg (a:=a+1) ku.lst ku.inf (ku.le _ _ S) (by rw [kx];exact B) (kx▸U) lD)) λv s5 l5 N=>?_
 refine rX v N λM=>?_
 have kz:=ku.grow l5
 have kO:bc<L.length:=by rw [kx];exact pK B
 refine nW (kq kz bc kO) λra g T a2 W a4=>?_;obtain ⟨da,a3⟩:=W
 refine g9 (ft (a5 rfl) kz.lst (kn (c:=0) kz.le rfl d3 (fB bJ)) a2) ?_
 refine iq (a5 rfl _ (i8 (a5 rfl) a3 λs6 u6=>?_))
 have lE:=kz.upd (I':=⟨aB,g.cl,g.un,g.id,g.part,g.cnt⟩) T u6.ne ⟨da,u6.at_⟩
 refine iq (d3 _ (i8 (a5 rfl) u6.at_ λs7 u7=>?_))
 have Z:=lE.upd (I':=⟨aB,g.cl,g.un,g.id,g.part,g.cnt⟩) T u7.ne ⟨da,u7.at_⟩
 rw [GF] at Z
 have kZ:∀{s aE c},aE[c]? =some s->VP aE c=s.un:=λ{s aE c} K=>by unfold VP;rw [K];rfl
 have lG:(L.set bc ⟨aB,g.cl,g.un,g.id,g.part,g.cnt⟩).length=aE.length:=by rw [gJ,kx]
 refine iq (Gg (n:=λv s=>∃u,v= .bool u/\eD s7 s) (uP (λc=>VP (L.set bc ⟨aB,g.cl,g.un,g.id,g.part,g.cnt⟩) (bc+c)) (λc=>sj (bc+c)) (dq:=eQ (bJ+1)) (dE:=λc=>sj (bc+c)) kD (a5 rfl) (Z.le _ _ S) λc z s8 Q=>?_) (λx hx=>?_) (λs8 Q=>(ej _ rfl Q)) _ λv s8 Q N=>?_)
 .refine nW (kq Z (bc+c) (by have:=eU.mp z;rw [lG];exact c_ (d7 (eX this) _) B)) λr y e1 e2 W e4=>?_;obtain ⟨kF,e3⟩:=W
  exact gr [none,some (.int (bc+c:Nat)),some (.ref ak)] rfl (tv (λn R=>eO (ft (a5 rfl) (Q _ _ Z.lst) (a5 rfl) e2) (Q _ _ e3) rfl _ (by rw [kZ e4] at R;exact ⟨_,.bool _,kZ e4▸R _ (ed _)⟩))) (λ_ s9 _=>jG (a5 rfl) rfl)
 .refine iQ x (ck.mp hx) λc _=>?_;exact .int _ _
 refine jj v N λu _=>?_
 have lu:=Z.grow Q
 refine i8 (a5 rfl) (Q _ _ u7.at_) λs9 u9=>?_
 have lg:=lu.upd (I':=⟨aB,g.cl,u,g.id,g.part,g.cnt⟩) T u9.ne ⟨da,u9.at_⟩
 rw [GF] at lg
 refine ki (aw:=true) (f' (fV (a5 rfl) d3 (eq_str (by decide)))) (λ_=>?_) (by intros;contradiction)
 refine iq (a5 rfl _ (i8 (a5 rfl) u9.at_ λlK kQ=>iq (d3 _ (i8 (a5 rfl) kQ.at_ λlJ kT=>iq (a5 rfl _ (i8 (a5 rfl) kT.at_ λlL kJ=>s_end ?_))))))
 have F:=lg.upd (I':=⟨aB,g.cl,u,p+1,0,M⟩) T (λo Y=>(kJ.ne o Y).trans ((kT.ne o Y).trans (kQ.ne o Y))) ⟨da,kJ.at_⟩
 rw [GF] at F
 have O:Bs bc aE (L.set bc ⟨aB,g.cl,u,p+1,0,M⟩):=(kH.one bc).set _
 have lH:(L.set bc ⟨aB,g.cl,u,p+1,0,M⟩)[bc]? =some ⟨aB,g.cl,u,p+1,0,M⟩:=GI kO
 generalize L.set bc ⟨aB,g.cl,u,p+1,0,M⟩=kN at*
 have kB:C.length=aE.length:=G.inf.1
 have lC:((eQ (bJ+1)).filter λc=>decide (c=0)).map (λc=>AV.ref ((C[bc+c]?).getD 0))=[.ref ra]:=by
  rewrite [ue,k8 rfl,jA.mpr λc z=>?_]
  .show [AV.ref ((C[bc]?).getD 0)]=_
   rw [T];rfl
  .refine iQ c (ck.mp z) λj _=>?_
   exact λkm=>absurd (of_decide_eq_true km) (tV j)
 have ly:xx bc (bc+bJ+1)=(eQ (bJ+1)).map λc=>AV.int (bc+c:Nat):=by unfold xx;rw [fJ,ib]
 refine RX (a:=ak) (d:=bc) (o:=bc+bJ+1) (aN:=[.ref ra]) (j:=C.map .ref) (lC▸tw (λc=>decide (c=0)) (λc=>AV.ref ((C[bc+c]?).getD 0)) (eQ (bJ+1)) (λc=>AV.int (bc+c:Nat)) kD (n:=λv _=>v= .pU bc (bc+bJ+1:Nat) 1) (jG (vv (a:=a+5) (kn (c:=0) F.le rfl d3 (fB bJ)) (kK F.le rfl) (by exact a_ (eA (c_ (eh _ _) B)) (a_ U (by decide))) (by exact a_ (nT B) (a_ U (by decide)))) rfl) (λv ky _ e=>(ej .pU (λ_ _=>trivial) (λn R=>by rw [e];exact tr (by rw [ly];exact R)))) λc z ky H=>?_)
  (λky H=>(iz (eO (a5 rfl) (H _ _ F.obj) rfl) (kn (c:=0) (b4 F.le H) rfl d3 (fB bJ)) (kK (b4 F.le H) rfl))) F.lst (by exact fZ (eh _ _)) (by rw [bb,kB];exact B) (by rw [bb,kB];unfold fF;exact a_ (fh U) (by decide)) λky lj H kC=>ej _ (ed _) ?_
 .have lx:=eU.mp z
  refine nW (kq F (bc+c) (by rw [O.1];exact c_ (d7 (eX lx) _) B)) λr y e1 e2 _ _=>?_
  have kU:=b4 F.le H
  have Y:(decide (((bc+c:Nat):Int)=((bc+0:Nat):Int))||!true)=decide (c=0):=by
   rw [wO,Bool.or_false]
   exact decide_eq_decide.mpr ⟨λK=>Vi K,λK=>by rw [K]⟩
  refine gr [none,some (.int (bc+c:Nat)),some (.ref aI),some (.ref ak)] rfl (Y▸tv (pw (MS (f' (fV (a5 rfl) (kn (c:=0) kU rfl d3 (fB bJ)) (eq_int rfl))) λ_=>Ed (aw:=true) (a5 rfl) (a5 rfl) (kU _ _ S) (.int _ _) (λx hx=>?_) ⟨λ_=>ck.mpr ⟨c,z,rfl⟩,λ_=>rfl⟩))) (λ_ lM lB=>jG (ft (a5 rfl) (lB _ _ (H _ _ F.lst)) (a5 rfl) (by rw [e2,e1];rfl)) rfl)
  refine iQ x (ck.mp hx) λj _=>?_
  exact .int _ _
 have D:=F.grow H
 have kX:bc+bJ<C.length:=kB▸B
 have kl:bc+bJ<kN.length:=by rw [O.1];exact B
 have kW:(wA C bc bJ ra).Sublist C:=P2 T
 refine R lj (p+1) (wA C bc bJ ra) (wA kN bc bJ ⟨aB,g.cl,u,p+1,0,M⟩) ⟨kC.le D.le D.fw,(kC.ne o λkm=>by have A:=D.obj;rw [km,D.lst] at A;(injection A;contradiction)).trans D.obj,?_,⟨?_,λc r z=>?_⟩,D.nd.sublist kW,D.fb,D.fw,λr hr=>D.fr r (kW.subset hr),?_⟩ ?_ λj y V hI=>?_
 .rw [kC.at_,Jj];unfold wA;rw [eC];rfl
 .rw [Eh kX,Eh kl,kB,O.1]
 .rw [xP (eA (c_ (eh _ _) kX))] at z
  rw [xP (eA (c_ (eh _ _) kl))]
  have kI:∀{r y},pH ky r y->pH lj r y:=λ{r y} ⟨kF,hd⟩=>⟨kF,(kC.ne r λkm=>by rw [km,D.lst] at hd;(injection hd;contradiction)).trans hd⟩
  by_cases A:c<bc
  .rw [if_pos A] at z⊢
   refine eS (D.inf.2 c r z) λy g1 g2=>?_
   exact ej y g1 (kI g2)
  .rw [if_neg A] at z⊢
   by_cases E:c=bc
   .rw [if_pos E] at z⊢
    (injection z with z;subst z)
    exact ej _ rfl (kI ⟨da,H _ _ kJ.at_⟩)
   .rw [if_neg E] at z⊢
    refine eS (D.inf.2 (c+bJ) r z) λy g1 g2=>?_
    exact ej y g1 (kI g2)
 .rw [Eh kl,O.1];exact a_ (jQ _ _) U
 .have e5:(wA kN bc bJ ⟨aB,g.cl,u,p+1,0,M⟩).map (·.g)=wA (aE.map (·.g)) bc bJ aB:=by
   rw [Jj]
   refine yY λj=>?_
   rw [xP (by rw [bb];exact eA (c_ (eh _ _) kl)),xP (by rw [bb];exact eA (c_ (eh _ _) B))]
   by_cases A:j<bc
   .rw [if_pos A,if_pos A,O.get (rx A)]
   .rw [if_neg A,if_neg A]
    by_cases E:j=bc
    .rw [if_pos E,if_pos E]
    .rw [if_neg E,if_neg E,O.get (Vj A E)]
  rw [e5];rfl
 .rw [xP (by exact eA (c_ (eh _ _) kl)),if_neg (by exact Nat.not_lt_of_gt V),if_neg (by exact Nat.ne_of_lt' V)] at hI
  refine gj (O.2 (j+bJ) y (by exact oz (ei V (eh _ _))) hI) λJ g1 _ g3=>?_
  rw [g3];exact hf _ J (by exact a_ (eA V) (eh _ _)) g1
theorem Ks (q:Ev i e b g af) (o:Ev i e b D b7) (j:Al i e b aL bw) (h:∀w a,eD b a->bw w a->Cl i l [af,b7,w] a n):Al i e b (.call (.cst l) (.cons g (.cons D (.cons aL .nil)))) n:=
 λQ d=>q _ (o _ (j _ λw a c p=>h w a c p Q λx f k m=>d x f (b4 c k) m))
theorem Ot.le (h:Ot b a d) (c:eD b q):Ot q a d:=zQ h.sc λl g f v w k=>mW k λm j n=>Ig n λe x y i=>⟨l,g,f,v,w,c _ _ m,j.le c,e,x,y,c _ _ i⟩
variable {bU:Nat}
theorem H0 (x:Buf b q o I ak p C aE) (hS:Ot b d o) (ht:b aI=some (.inst 5 bJ [(54,.ref bc)])) (hE:kj b bc aK) (hT:vm (strip aK) 5) (u:bU<aE.length) (V:∀j A,bU<=j->aE[j]? =some A->A.id=0) (hN:∀L,Buf b L o I ak p C aE->(((strip aK).lookup (gD aE bU)).getD []).find? (λr=>jy ((aE.map (·.g)).drop (bU+1)) r.1)=none->n (.int (-1)) L) (T:∀L km W M f,Buf b L o I ak km W M->(((strip aK).lookup (gD aE bU)).getD []).find? (λr=>jy ((aE.map (·.g)).drop (bU+1)) r.1)=some f->M.map (·.g)=(aE.map (·.g)).take bU++f.2::(aE.map (·.g)).drop (bU+f.1.length+1)->(∀j A,bU+1<=j->M[j]? =some A->A.id=0)->n (.int (bU+1:Nat)) L):
 eE PG (a+10) (.fn 42) [.ref d,.ref aI,.int bU] q n:=by
 refine zQ hS.sc λkP gd lk y kQ kG=>mW kG λq1 q2 q3=>?_
 obtain ⟨ra,a1,a2,da,a3⟩:=x.at_ u
 have kJ:gD aE bU=aE[bU].g:=by unfold gD;rw [dj u];rfl
 have hG:(aE.map (·.g))[bU]? =some aE[bU].g:=by rw [ee,dj u];rfl
 rw [kJ] at hN T
 refine gP [some (.ref d),some (.ref aI),some (.int bU),none,none,none,none,none] (df 2 _) rfl rfl (g9 (eO (eO (a5 rfl) (x.le _ _ q1) rfl) x.obj rfl) (g9 (l:=.int aE[bU].g) (eO (ft (a5 rfl) x.lst (a5 rfl) a2) a3 rfl) ?_))
 refine q_ (CV (hE.le x.le) (eO (a5 rfl) (x.le _ _ ht) rfl) (a5 rfl)) λy s1 l1 N=>?_
 refine jj y N λrl ku=>?_
 have kK:∀f∈((strip aK).lookup aE[bU].g).getD [],f.1.length<=3:=λf H=>by
  induction h:(strip aK).lookup aE[bU].g with
  |none=>rw [h] at H;contradiction
  |some l=>
   rw [h] at H
   exact (hT.rows (aE[bU].g,l) (by refine i5 (gT.mp h) λl1 F e _=>?_;rw [e];simp) f H).len
 generalize ((strip aK).lookup aE[bU].g).getD []=kz at*
 refine iG (.list rl _) kz ie (λn=>gI ku) (λD m s=>eD s1 s/\(∀f∈D,jy ((aE.map (·.g)).drop (bU+1)) f.1=false)/\∃U X R,m=[some (.ref d),some (.ref aI),some (.int bU),some (.ref ak),some (.int aE[bU].g),U,X,R]) (va (ed _) (by intros;contradiction) _ _ _ rfl) (λ_ _ _ h=>h.1 _ _ ku) ?_ ?_
 .intro D f r' m Y hD kM K hK;refine vd m kM λF S U X R=>?_
  have B:=x.grow (b4 l1 F)
  have kl:=kK f (mid hD)
  have kC:jy ((aE.map (·.g)).drop (bU+1)) f.1=true->kz.find? (λr=>jy ((aE.map (·.g)).drop (bU+1)) r.1)=some f:=λh=>mU.mpr (Df h D r' hD (λZ u=>by rw [S Z u];rfl))
  refine ej [some (.ref d),some (.ref aI),some (.int bU),some (.ref ak),some (.int aE[bU].g),some (tI f.1),some (.int f.2),R] rfl (ki (f' (AY (bS:=[]) (a5 rfl) (g6 gQ))) (λg=>?_) λg=>s_end ?_)
  .have g:=of_decide_eq_true g
   obtain ⟨kT,b1,b2,db,b3⟩:=B.at_ u
   refine iq (a5 rfl _ (i8 (ft (a5 rfl) B.lst (a5 rfl) b2) b3 λs3 u3=>iM (ia (bZ:=((bU+1:Nat):Int)) (a5 rfl) d3 rfl) (ej _ (ed _) ?_)))
   refine T s3 p C (aE.set bU ⟨f.2,aE[bU].cl,aE[bU].un,aE[bU].id,aE[bU].part,aE[bU].cnt⟩) f (B.upd b1 u3.ne ⟨db,u3.at_⟩) (kC (by rw [g];exact gL.mpr uj)) ?_ λj A hj hI=>?_
   .rw [g,GH,List.set_eq_take_append_cons_drop,if_pos (by rw [bb];exact u)];rfl
   .rw [iH (rx hj)] at hI
    exact V j A (nU hj) hI
  .have g:=of_decide_eq_false g
   have kO:1<=f.1.length:=oH.mpr g
   refine yy (Ks (n:=λy s=>(f.1<+:(aE.map (·.g)).drop (bU+1)/\∃z,y= .ref z/\i0 Y s z (.list (js bU (f.1.length+1))))\/(¬f.1<+:(aE.map (·.g)).drop (bU+1)/\y= .none)) (a5 rfl) (a5 rfl) (gy d3 (iJ (l:=tI (aE[bU].g::f.1)) (λn E=>AN (g6 (iJ (a5 rfl))) (a5 rfl) (by rw [bb];unfold fF;exact a_ (d7 kl 1) (by decide)) _ E)) (HV (a:=a+6) (by unfold fF;exact a_ (fh kl) (by decide))))
    λy s3 l3 N=>N▸uO (HX (a:=a) (B.grow l3) hS hG (a_ kl (by decide))) λy s4 _ h=>h.imp (λzf=>S8 zf λZ z o kI=>(tO Z z o (kI.base l3))) id) λy s4 O N=>?_
   have kn:=B.grow O
   rcases N with ⟨Q,z,rfl,oc⟩ |⟨Q,rfl⟩
   .have kx:bU+f.1.length<aE.length:=by
     have:=Q.length_le
     rw [ey,bb] at this
     exact Xb u this
    refine iK (tD B.le O oc) λb0 b1=>?_
    have kD:=B.with O oc
    have kB:=gX b z (.list (js bU (f.1.length+1)))
    refine pG (aw:=true&&true) (DU (aw:=true) (pw (f' (fV (a5 rfl) d3 λn E=>.Te (by (repeat intro _);contradiction) (by (repeat intro _);contradiction) E))) λ_ s5 J=>rN (gy d3 (iL (a5 rfl) (a5 rfl)) (B2 (a:=a+4) (kn.grow J).lst (kn.grow J).inf (J _ _ oc.at_) kx V))) λs5 J=>⟨λ_=>?_,(by intros;contradiction)⟩
    generalize u_ b z _=sb at*
    refine FV (g7 d3 (vD (a5 rfl) (a5 rfl) (a5 rfl)) (Kr (a:=a+2) (kD.grow J) (hS.le b0) kB kO kx V λs6 km W M ky hg kH=>?_))
    have kq:=ky.le _ _ kB
    rw [p8] at kq
    exact iM (ia (bZ:=((bU+1:Nat):Int)) (ia (bZ:=((bU+f.1.length+1:Nat):Int)) (z4 (a5 rfl) kq) d3 rfl) (px (a:=a+8) (a5 rfl)) (by show some (((bU+f.1.length+1:Nat):Int) - (f.1.length:Nat))=_;exact congrArg some Xc)) (ej _ (ed _) (T s6 km W M f (ky.base b0) (kC (gL.mpr Q)) hg kH))
   .refine ki (aw:=false&&false) (yu (aw:=false) (bN:=false) (f' (fV (a5 rfl) d3 λn E=>.Td E)) (λh=>nomatch h)) (by intros;contradiction) λ_=>hK _ _ (va (b4 F O) (λkN G=>?_) _ _ _ rfl)
    rcases eF.mp G with G |G
    .exact S kN G
    .rw [dt.mp G,nM]
     exact λh=>Q (gL.mp h)
 .intro m Y kF;refine vd m kF λF S U X R=>?_
  exact iM (wm (p:=1) d3) (ej _ (ed _) (hN Y (x.grow (b4 l1 F)) (jL.mpr λf H h=>by rw [S f H] at h;contradiction)))
noncomputable def o7 (T:Table) (s:g_):Nat×Int:=match ((T.lookup (s.headD 0)).getD []).find? (λr=>jy (s.drop 1) r.1) with
 |some q=>(1+q.1.length,q.2)
 |none=>(1,s.headD 0)
theorem Gi (T:Table) (b:0<av.length):(o7 T av).1<=av.length/\0<(o7 T av).1:=by
 unfold o7
 induction h:((T.lookup (av.headD 0)).getD []).find? (λr=>jy (av.drop 1) r.1) with
 |none=>exact ⟨b,j9⟩
 |some q=>
  have a:=(gL.mp (BC (p:=λr:Row=>jy (av.drop 1) r.1) h)).length_le
  rw [ey] at a
  exact ⟨by show 1+q.1.length<=_;exact n1 (eY 1 _) (zy b a),by show 0<1+q.1.length;exact ei Qg (eh _ _)⟩
noncomputable def zp (st:AS) (b row:Nat) (rs:List Nat):AS:=λa=>if a=b\/a=row\/a∈rs then none else st a
theorem NK (h:b o=some ay) (f:eD b q) (g:b a=none) (i:b d=none) (e:∀r∈C,b r=none):zp q a d C o=some ay:=by
 refine (if_neg λc=>?_).trans (f _ _ h)
 rcases c with rfl |rfl |c
 .rw [g] at h;contradiction
 .rw [i] at h;contradiction
 .rw [e _ c] at h;contradiction
theorem Buf.hide (h:Buf b q a d o p C aE):Buf (zp q a o C) q a d o p C aE/\∀x c,q x=some c->(∀s,c≠.list s)->(∀g f,c≠.inst 1 g f)->(∀g f,c≠.inst 2 g f)->zp q a o C x=some c:=by
 refine ⟨⟨λx c e=>?_,h.obj,h.lst,h.inf,h.nd,if_pos (.inl rfl),if_pos (.inr (.inl rfl)),λr u=>if_pos (.inr (.inr u)),h.len⟩,λx c e v n m=>(if_neg λj=>?_).trans e⟩
 .unfold zp at e
  by_cases k:x=a\/x=o\/x∈C
  .rw [if_pos k] at e;contradiction
  .rwa [if_neg k] at e
 .rcases j with rfl |rfl |j
  .exact m _ _ (oj e h.obj)
  .exact v _ (oj e h.lst)
  .obtain ⟨i,t⟩:=eZ.mp j
   obtain ⟨I,_,g,l⟩:=h.inf.2 i x t
   exact n _ _ (oj e l)
theorem NL (t:zi b d []) (h:∀g e,eD b e->Bo e g->n (.ref g) e):eE PG (a+4) (.cls 9) [.ref d,l,af] b n:=by
 refine zY rfl λj s B n1=>gP [some (.ref j),some (.ref d),some l,some af,some .none,some .none] (df 2 _) rfl rfl ?_
 refine iq (a5 rfl _ (i8 (a5 rfl) n1.at_ λv u2=>iq (a5 rfl _ (i8 (a5 rfl) u2.at_ λu u3=>iq (a5 rfl _ (i8 (a5 rfl) u3.at_ λA k=>iq (HZ (f' (fV (a5 rfl) d3 λn c=>.Vo c)) (A9 λy s5 f=>i8 (a5 rfl) (f.le _ _ k.at_) λz m=>iq (HZ (f' (fV (a5 rfl) d3 λn c=>.Vo c)) (A9 λx w o=>i8 (a5 rfl) (o.le _ _ m.at_) λr p=>(gr _ (ed _) rfl ?_)))))))))))
 have q:=k.le (u3.le (u2.le n1.le n1.fr) n1.fr) n1.fr
 have i:=p.le (b4 (m.le (b4 q f.le) n1.fr) o.le) n1.fr
 exact h j r i ⟨s,d,l,af,_,_,p.at_,t.le i⟩
theorem Ei (h:∀g e,eD b e->Bo e g->n (.ref g) e):Cl (eE PG (a+5)) (.fn 71) [] b n:=by
 refine jO [] (df _ _) rfl rfl λy f R v=>?_
 (injection f with f;subst f)
 refine AR (Ga (jJ (A9 λk A n1=>tp (df 4 a) λc1 l r _ _=>?_)))
 have i:=fN (ay:=.inst 0 l [(33,.ref k)]) r
 refine jJ (A9 λw x d=>tp (df 4 a) λz t u _ _=>?_)
 have j:=fN (ay:=.inst 0 t [(33,.ref w)]) u
 refine sh gQ λc5 s5 c=>NL (a:=a) ⟨l,k,c.le _ _ (j.le _ _ (d.le _ _ i.at_)),c.le _ _ (j.le _ _ (d.le _ _ (i.le _ _ n1.at_)))⟩ λg m s q=>?_
 have p:eD b m:=b4 n1.le (b4 i.le (b4 d.le (b4 j.le (b4 c.le s))))
 exact v _ _ _ p (h g m p q)
theorem Kt (h:∀i f w e,eD b e->e i=some (.inst 4 f [(27,.ref d),(50,.ref o),(51,l),(52,.ref I),(36,.int 1),(53,.int 0),(32,w)])->n (.ref i) e):eE PG (a+4) (.cls 4) [.ref d,.ref o,l,.ref I,.int 1] b n:=by
 refine zY rfl λk f B n1=>gP [some (.ref k),some (.ref d),some (.ref o),some l,some (.ref I),some (.int 1),some (.int 0)] (df 2 _) rfl rfl ?_
 refine iq (a5 rfl _ (i8 (a5 rfl) n1.at_ λx u2=>iq (a5 rfl _ (i8 (a5 rfl) u2.at_ λu u3=>iq (a5 rfl _ (i8 (a5 rfl) u3.at_ λA m=>iq (a5 rfl _ (i8 (a5 rfl) m.at_ λs5 j=>iq (a5 rfl _ (i8 (a5 rfl) j.at_ λz p=>iq (a5 rfl _ (i8 (a5 rfl) p.at_ λy q=>iq (sh (iJ d3) λc v r=>i8 (a5 rfl) (r.le _ _ q.at_) λs g=>(gr _ (ed _) rfl ?_))))))))))))))
 have t:=q.le (p.le (j.le (m.le (u3.le (u2.le n1.le n1.fr) n1.fr) n1.fr) n1.fr) n1.fr) n1.fr
 exact h k f _ s (g.le (b4 t r.le) n1.fr) g.at_
theorem Gj (c:Buf b q d o I p C aE):Cl (eE PG (a+3)) (.fn 10) [.ref d] q (gO q ((aE.map (·.g)).map .int)):=by
 refine jO [some (.ref d)] (df _ _) rfl rfl λw t R m=>?_
 injection t
 refine iK c.zip λj k=>?_
 have f:=c.lst
 rw [j] at f
 have n:(aE.map (·.g)).map AV.int=(C.zip aE).map λe=>.int e.2.g:=by
  rw [<-N7 (l₁:=C) (l₂:=aE) (gv c.inf.1.symm),et,et,N7 (gv c.inf.1.symm)];rfl
 refine sg (tx (λe:Nat×Inf=>.int e.2.g) ?_ (eO (a5 rfl) c.obj rfl) f λe h x g=>(ej [none,some (.ref e.1)] rfl ?_)) λv s l r=>m _ _ _ l (n▸r)
 .rw [OD,c.inf.1,GX];exact a_ c.len (by unfold fF;decide)
 .obtain ⟨u,i⟩:=k e h
  exact jG (eO (a5 rfl) (g _ _ i) rfl) rfl
noncomputable def Ud (g cl mk:Int):List (Nat×AV):=MQ (.int g) (.int cl) (.int mk)
noncomputable def Su (p:Nat×Int):Inf:=⟨p.2,p.1,false,0,0,0⟩
noncomputable def Gk (gs:List Int):List (Nat×Int):=gs.mapIdx λi g=>(i,g)
theorem NM {c:AV} (h:VE PG i g e b λv b=>i l [af,b7,c,v] b n):VE PG i (.call (.cst l) (.cons (.cst af) (.cons (.cst b7) (.cons (.cst c) (.cons g .nil))))) e b n:=h
theorem NN (d:Ev i e b g af) (h:VE PG i D e b λf b=>VE PG i aL e b λc b=>VE PG i cX e b λa b=>i l [af,f,c,a,b7] b n):VE PG i (.call (.cst l) (.cons g (.cons D (.cons aL (.cons cX (.cons (.cst b7) .nil)))))) e b n:=d _ h
theorem yM (ht:b d=some (.inst 5 I [(54,.ref o)])) (hE:kj b o aK) (hT:vm (strip aK) 5) (hg:b ak=some (.list (a8.map .int))) (hl:a8.length<=10000):
 Cl (eE PG (a+11)) (.fn 76) [.ref d,.ref ak] b (gO b ((iF (o7 (strip aK)) a8.length a8).map .int)):=by
 refine jO [some (.ref d),some (.ref ak),none,none,none,none,none,none] (df _ _) rfl rfl λk' kH R hR=>?_
 (injection kH with kH;subst kH)
 have lM:∀{F:MM} {s:AS},eD b s->F[1]? =some (some (.ref ak))->Ev (eE PG (a+10)) F s (.call (.cst (.bi 0)) (.cons (.var 1) .nil)) (.int a8.length):=λlY hm=>by
  have:=jd (a:=a+9) (a5 hm) (f9 (lY _ _ hg))
  rwa [bb] at this
 refine je (jJ (zX (jJ (lM (ed _) rfl _ (tA (a:=a+9) (a_ hl (by decide)) (tu .pU (eQ a8.length) (λlP=>.int (lP:Nat)) (λQ=>p4) (λD kq s=>eD b s/\∃f:List Nat,kq=f.map .ref/\f.length=D.length/\f.Nodup/\(∀r∈f,b r=none)/\∀(i:Nat) r,f[i]? =some r->∃g I,a8[i]? =some g/\s r=some (.inst 1 I (Ud g i 0))) ⟨(ed _),[],rfl,rfl,eI,(by intros;contradiction),(by intros;contradiction)⟩ (λ_ _ _ _=>trivial) ?_ ?_))))))
 .intro D y r' kq s hD lK K U;refine S5 kq lK λS f lS=>wV lS λL h2 h3 h4=>?_
  refine Qm y (rj hD) λE=>?_
  have lR:(a8.map AV.int)[D.length]? =some (.int a8[D.length]):=by rw [ee,dj E];rfl
  refine ej [none,some (.int D.length),some (.ref ak)] rfl (Eb (g7 d3 (vD d3 (ft (a5 rfl) (S _ _ hg) (a5 rfl) lR) (a5 rfl)) (MR (df 4 _) λkz I fa fd _=>?_)))
  have na:=fN (ay:=.inst 1 I (MQ (.int a8[D.length]) (.int D.length) (.int 0))) fa
  refine ⟨by rw [bb,L];exact ei E (a_ hl (by unfold fF;decide)),U _ _ ⟨(b4 S na.le),(f++[kz]),(by rw [b_];rfl),(by rw [bh,bh,L];rfl),?_,?_,(λi r l=>?_)⟩⟩
  .refine eP.mpr (iz h2 (eT.mpr ⟨eg,eI⟩) (λG u y E q=>?_))
   refine j_ (eZ.mp u) λi l=>?_
   refine i5 (h4 i G l) λg W _ V=>?_
   rw [q,dt.mp E] at V
   exact na.ne V rfl
  .exact λG u=>(eF.mp u).elim (h3 G) λu=>by rw [dt.mp u];exact jE S fa.1
  .rcases j' i f.length with ku |ku
   .rw [eN ku] at l
    refine i5 (h4 i r l) λg W V h6=>?_
    exact nB g W V (na.le _ _ h6)
   .rw [fk ku] at l
    have h0:i -f.length=0:=iZ.mp (gz l)
    rw [h0] at l
    (injection l with l;subst l)
    have lH:i=D.length:=by rw [<-L];exact ir (uh.mp h0) ku
    rw [lH]
    exact nB _ I (dj E) na.at_
 intro kq s1 s2 C lQ X;obtain ⟨S,f,rfl,L,h2,h3,h4⟩:=lQ
 rw [ff] at L
 refine Hz (df 4 _) λA bx fb m8 _=>?_
 have O:=fN (ay:=.inst 2 bx [(28,.ref C),(44,.bool false),(45,.int 0),(46,.int 0)]) fb
 generalize u_ s2 A _=s3 at*
 have l3:eD b s3:=b4 S (b4 X.le O.le)
 have kO:b C=none:=jE S X.fr
 have lj:b A=none:=jE (b4 S X.le) O.fr
 refine oS (eO (a5 rfl) O.at_ rfl) (iG (.list C _) f .ref (λQ=>gI (O.le _ _ X.at_)) (λD F s=>eD b s/\s C=some (.list (f.map .ref))/\s A=some (.inst 2 bx [(28,.ref C),(44,.bool false),(45,.int 0),(46,.int 0)])/\(∀(i:Nat) r,f[i]? =some r->∃g I,a8[i]? =some g/\s r=some (.inst 1 I (Ud g i (if i<D.length then 1 else 0))))/\∃w3,F=[some (.ref d),some (.ref ak),some (.ref A),w3,none,none,none,none])
  ⟨l3,(O.le _ _ X.at_),O.at_,(λi r l=>i5 (h4 i r l) λg I V h6=>⟨g,I,V,O.le _ _ (X.le _ _ h6)⟩),_,rfl⟩ (λ_ _ _ h=>h.2.1) ?_ ?_)
 .intro D y r' F s4 hD lN K U;refine OJ F lN λl4 q1 q2 q3 w3=>?_
  have E:f[D.length]? =some y:=by rw [hD];simp
  refine i5 (q3 D.length y E) λg lA g1 J=>?_
  refine ej _ rfl (iq (d3 _ (i8 (a5 rfl) J λs5 Y=>U _ _ ⟨Y.le l4 (h3 y (fi E)),(Y.ne C λq=>by have:=oj q1 (q▸J);contradiction).trans q1,(Y.ne A λq=>by have:=oj q2 (q▸J);(injection this;contradiction)).trans q2,λi r l=>?_,_,rfl⟩)))
  rw [bh,i9]
  by_cases kI:i=D.length
  .rw [kI] at l⊢
   rw [E] at l;obtain rfl:=d5 l
   exact nB g lA g1 (by rw [if_pos (fH _)];exact Y.at_)
  .refine i5 (q3 i r l) λg' W g3 g4=>?_
   refine nB g' W g3 ((Y.ne r λq=>kI (yF h2 l (q▸E))).trans ?_)
   rw [g4]
   by_cases ky:i<D.length
   .rw [if_pos ky,if_pos (jq ky)]
   .rw [if_neg ky,if_neg (show ¬i<D.length+1 from λq=>(ED.mp q).elim ky kI)]
 intro F s4 ly;obtain ⟨l4,q1,q2,q3,w3,rfl⟩:=ly
 have z:Buf b s4 A bx C 0 f ((Gk a8).map Su):=by
  have kT:((Gk a8).map Su).length=a8.length:=by unfold Gk;rw [bb,xW]
  refine ⟨l4,q2,q1,⟨by rw [kT,L],λi r l=>?_⟩,h2,lj,kO,h3,by rw [kT];exact hl⟩
  refine i5 (q3 i r l) λg W g1 J=>?_
  rw [if_pos (gz l)] at J
  refine ⟨Su (i,g),?_,W,J⟩
  unfold Gk
  rw [ee,Ib,g1];rfl
 have m4:((Gk a8).map Su).map (·.g)=a8:=by
  refine yY λj=>?_
  unfold Gk
  rw [et,ee,Ib,Option.map_map]
  exact Option.map_id_fun'▸rfl
 have lZ:∀(j:Nat) B,((Gk a8).map Su)[j]? =some B->B.id=0:=λj B hI=>by
  refine iQ B (ck.mp (fi hI)) λp _=>?_;rfl
 generalize (Gk a8).map Su=m5 at*
 refine je (NM (sh (iJ (a5 rfl)) λc5 s5 n5=>Hy (df 4 _) λlk dy fl _ _=>?_))
 have n6:=fN (ay:=.inst 3 dy [(37,Kp),(47,.int 0),(48,.int 0),(49,.ref c5)]) fl
 generalize u_ s5 lk _=s6 at*
 refine je (NN (a5 rfl) (g7 d3 gQ (Ei (a:=a+5) (n:=λlg s=>∃g,lg= .ref g/\eD s6 s/\Bo s g) (λg s7 l7 hg=>(gr g rfl l7 hg)) _ ?_)))
 intro _ s7 l7 lL;obtain ⟨gd,rfl,_,lD⟩:=lL
 refine sh (iJ (a5 rfl)) λc8 s8 n8=>a5 rfl _ (Kt (a:=a+6) λsc lW w Z l9 m6=>?_)
 have lX:eD s4 Z:=b4 n5.le (b4 n6.le (b4 l7 (b4 n8.le l9)))
 have kY:=z.grow lX
 refine iK kY.hide λlE kl=>?_
 have lU:=lD.le (b4 n8.le l9)
 have lG:=b4 l7 (b4 n8.le l9) _ _ n6.at_
 have lF:∀G km,b G=some km->zp Z A C f G=some km:=λG km kD=>NK kD kY.le lj kO h3
 have hS:Ot (zp Z A C f) sc A:=by
  obtain ⟨gx,cd,kz,b',c,d',g1,cx,lx,J,g3⟩:=lU
  exact ⟨lW,gd,lk,_,w,kl _ _ m6 (by (repeat intro _);contradiction) (by intros;intro h;first |contradiction |(injection h;contradiction)) (by intros;intro h;first |contradiction |(injection h;contradiction)),⟨gx,cd,kz,b',c,d',kl _ _ g1 (by (repeat intro _);contradiction) (by intros;intro h;first |contradiction |(injection h;contradiction)) (by intros;intro h;first |contradiction |(injection h;contradiction)),cx,lx,kl _ _ J (by (repeat intro _);contradiction) (by intros;intro h;first |contradiction |(injection h;contradiction)) (by intros;intro h;first |contradiction |(injection h;contradiction)),kl _ _ g3 (by (repeat intro _);contradiction) (by (repeat intro _);contradiction) (by (repeat intro _);contradiction)⟩,dy,_,_,kl _ _ lG (by (repeat intro _);contradiction) (by intros;intro h;first |contradiction |(injection h;contradiction)) (by intros;intro h;first |contradiction |(injection h;contradiction))⟩
 have kn:eD b (zp Z A C f):=λG km kD=>lF G km kD
 have lu:=kn _ _ ht
 have lq:=hE.le kn
 generalize zp Z A C f=sH at*
 have lB:∀s:List Int,0<s.length->0<(o7 (strip aK) s).1:=λs hs=>(Gi (strip aK) hs).2
 refine g9 (l:=.int (0:Nat)) d3 (oN a8.length (λN F s=>∃(ll:Int) (f:List Nat) (H:List Inf) (p:Nat) (t:List Int) (w7:Option AV),Buf sH s A bx C ll f H/\H.map (·.g)=t++a8.drop p/\(∀j B,t.length<=j->H[j]? =some B->B.id=0)/\p<=a8.length/\N=a8.length -p/\t++iF (o7 (strip aK)) (a8.length -p) (a8.drop p)=iF (o7 (strip aK)) a8.length a8/\
  F=[some (.ref d),some (.ref ak),some (.ref A),w3,some (.ref lk),some (.ref sc),some (.int t.length),w7])
  (uq 0 f m5 0 [] _ (uo lE m4 (λj B _=>lZ j B) (fy _) rfl rfl rfl)) ?_)
 intro N F s m3 K U;obtain ⟨ll,f,H,p,t,w7,z,T,hf,hp,rfl,hr,rfl⟩:=m3
 have kK:H.length=t.length+(a8.length -p):=by
  have:=congrArg fj T
  rwa [bb,bh,ey] at this
 have kN:=jd (a:=a+9) (e:=[some (.ref d),some (.ref ak),some (.ref A),w3,some (.ref lk),some (.ref sc),some (.int t.length),w7]) (eO (g:=.var 2) (a:=28) (a5 rfl) z.obj rfl) (f9 z.lst)
 rw [bb,z.inf.1] at kN
 refine ej (decide (t.length<H.length)) (pw (f' (fV (a5 rfl) kN (n_ (decide_eq_decide.mpr h9.symm))))) (λm9 kJ=>⟨λu=>?_,λu=>?_⟩)
 .have u:=of_decide_eq_true u
  have M:p<a8.length:=Vk kK u
  have z:=z.grow kJ
  have kG:a8.drop p=a8[p]::a8.drop (p+1):=fQ M
  have kU:0<(a8.drop p).length:=by rw [ey];exact iX M
  have kX:(a8.drop p).headD 0=a8[p]:=by rw [kG];rfl
  have kB:(a8.drop p).drop 1=a8.drop (p+1):=by rw [ig]
  have kP:gD H t.length=a8[p]:=by
   unfold gD
   rw [<-ee,T,fk (eJ _),jB,kG];rfl
  have lh:(H.map (·.g)).drop (t.length+1)=a8.drop (p+1):=by rw [T,<-ig,iU,kB]
  have e1:=sM _ lB kU
  have kZ:∀(q:Nat×Int),o7 (strip aK) (a8.drop p)=q->q.1<=a8.length -p->0<q.1->t++[q.2]++iF (o7 (strip aK)) (a8.length - (p+q.1)) (a8.drop (p+q.1))=iF (o7 (strip aK)) a8.length a8:=λq hq L h2=>by
   rw [ey,hq,ig,ey] at e1
   rw [eC,<-hr,e1];rfl
  have m7:(t++[(0:Int)]).length=t.length+1:=bh
  refine je (g7 d3 (vD (a5 rfl) (a5 rfl) (a5 rfl)) (H0 (a:=a) z hS lu lq hT u hf (λkV kF kM=>?_) λkV lJ lr lO q kF kQ lz lC=>?_))
  .rw [kP,lh] at kM
   have kx:o7 (strip aK) (a8.drop p)=(1,a8[p]):=by unfold o7;rw [kX,kB,kM]
   refine je (show VT PG _ _ _ _ _ _ from f' (fV (a5 rfl) d3 (D5 (aw:=false) rfl)) _ ?_)
   rw [if_neg gM]
   refine ia (bZ:=((t.length+1:Nat):Int)) (a5 rfl) d3 rfl _ (U _ _ _ (i3 M (fH p)) (uq ll f H (p+1) (t++[a8[p]]) (some (.int (-1))) (uo kF ?_ (λj B hj=>hf j B (by rw [bh] at hj;exact nU hj)) M rfl (kZ _ kx (iX M) j9) ?_)))
   .rw [T,kG,eC];rfl
   .rw [bh];rfl
  .rw [kP,lh] at kQ
   have kx:o7 (strip aK) (a8.drop p)=(1+q.1.length,q.2):=by unfold o7;rw [kX,kB,kQ]
   have kC:=Gi (strip aK) kU
   rw [kx,ey] at kC
   have lI:p+(1+q.1.length)<=a8.length:=H_ (eA M) kC.1
   refine je (show VT PG _ _ _ _ _ _ from f' (fV (a5 rfl) d3 (D5 (aw:=true) (decide_eq_true (gE (t.length+1))).symm)) _ ?_)
   rw [if_pos rfl]
   refine a5 rfl _ (U _ _ _ (i3 M (gk (ei j9 (eh _ _)))) (uq lJ lr lO (p+(1+q.1.length)) (t++[q.2]) (some (.int (t.length+1:Nat))) (uo kF ?_ (λj B hj=>lC j B (by rw [bh] at hj;exact hj)) lI rfl (kZ _ kx kC.1 (ei j9 (eh _ _))) ?_)))
   .rw [lz,T,Qh,show t.length+q.1.length+1=t.length+(1+q.1.length) by exact y5,<-ig,iU,ig,eC];rfl
   .rw [bh];rfl
 .have u:=of_decide_eq_false u
  have kW:a8.length -p=0:=Vl kK u
  rw [kW,show iF (o7 (strip aK)) 0 (a8.drop p)=[] from rfl,eR] at hr
  have lV:a8.drop p=[]:=pE (nH kW)
  rw [lV,eR,hr] at T
  have z:=z.grow kJ
  refine AR (jr (a5 rfl) z.obj rfl rfl rfl gQ (Gj (a:=a+7) z _ λlg kV lT hv=>hR _ _ _ (b4 (b4 kn z.le) lT) ?_))
  rw [T] at hv
  exact hv.mono (b4 kn z.le)
theorem RY:∀(u:g_) {a b:g_},u++a<u++b->a<b:=by
 intro d
 induction d with
 |nil=>
  intro _ _ h
  exact h
 |cons x u c=>
  intro a b h
  exact c ((G3.mp h).resolve_left (xY x)).2
theorem vw (h:a7.Pairwise λa b=>a.1<b.1) (u:g_):(gH a7 u).Pairwise λa b=>a.1<b.1:=by
 unfold gH
 refine gi.mpr ((h.filter _).imp_of_mem λ{a b} f e c=>?_)
 refine j_ (gL.mp (gB.mp f).2) λx g=>?_
 refine j_ (gL.mp (gB.mp e).2) λy d=>?_
 rw [<-g,<-d] at c⊢
 rw [iU,iU]
 exact RY u c
noncomputable def xQ (ws:List Row) (p:g_):Int:=((ws.find? λr=>decide (r.1=p)).map (·.2)).getD (-1)
theorem Ku (c:(a7.map (·.1)).Nodup) (h:(av,p)∈a7):xQ a7 av=p:=by
 refine qW (nc h) λa b d=>?_;clear h;subst d
 have:(a++(av,p)::b).find? (λr=>decide (r.1=av))=some (av,p):=mU.mpr ⟨decide_eq_true rfl,a,b,rfl,λr e=>by
  rw [b_,eP] at c
  rw [decide_eq_false λq=>c.2.2 _ (fE e) av (.head _) q];rfl⟩
 unfold xQ
 rw [this];rfl
theorem Bt (h:∀l,(av,l)∉a7):xQ a7 av= -1:=by
 unfold xQ
 rw [jL.mpr λr a q=>h r.2 (by rw [<-of_decide_eq_true q];exact a)];rfl
structure oG (W:List Row) (A:Au) (ps:List g_) (ws:List Row):Prop where
 ok:A.Ok
 fwd:RR A
 len:ps.length=A.steps.length
 p0:ps[0]? =some []
 nd:ps.Nodup
 step:∀(n:Nat) g (t:Nat) pn,ps[n]? =some pn->(A.step n g=some t↔ps[t]? =some (pn++[g]))
 ends:∀(n:Nat) pn,ps[n]? =some pn->A.end n=xQ ws pn
 pre:∀p∈ps,p=[]\/∃r∈W,p<+:r.1
 wp:∀r∈ws,r.1∈ps
 pc:∀p g,p++[g]∈ps->p∈ps
theorem oG.grow (h:oG a7 r aM aQ) {g:Int} (o:aM[a]? =some av) (C:∃y∈a7,av++[g]<+:y.1):∃D t,oG a7 (r.grow a g) D aQ/\(r.grow a g).step a g=some t/\D[t]? =some (av++[g]):=by
 have k:a<r.steps.length:=h.len▸gz o
 induction i:r.step a g with
 |some t=>
  refine nu aM t (by unfold xZ;rw [i];exact h) (by unfold xZ;rw [i];exact i) ((h.step a g t av o).mp i)
 |none=>
  have u:av++[g]∉aM:=λq=>by
   obtain ⟨t,P⟩:=eZ.mp q
   rw [(h.step a g t av o).mpr P] at i;contradiction
  have F:(r.grow a g).steps.length=r.steps.length+1:=by rw [p5,i];rfl
  have E:(aM++[av++[g]])[r.steps.length]? =some (av++[g]):=by rw [<-h.len];exact jz
  have A:=vo (p:=g) k
  rw [i] at A
  have G:∀n x,(r.grow a g).step n x=if n=a/\x=g then some r.steps.length else r.step n x:=λn x=>by
   unfold U_
   rw [mR k i]
   by_cases j:n=a
   .rw [if_pos j,A7 i]
    by_cases v:x=g
    .rw [if_pos v,if_pos ⟨j,v⟩]
    .rw [if_neg v,if_neg λq=>v q.2,j]
   .rw [if_neg j,if_neg λq=>j q.1]
  have s:∀{n:Nat} {p:g_},(aM++[av++[g]])[n]? =some p->aM[n]? =some p\/(n=r.steps.length/\p=av++[g]):=λ{n p} c=>by
   rcases j' n aM.length with f |f
   .rw [eN f] at c;exact .inl c
   .rw [fk f] at c
    have H:n -aM.length=0:=iZ.mp (gz c)
    rw [H] at c
    exact .inr ⟨by rw [<-h.len];exact ir (uh.mp H) f,(d5 c).symm⟩
  refine nu (aM++[av++[g]]) r.steps.length ⟨h.ok.grow k g,λn p c=>?_,by rw [bh,F,h.len];rfl,by rw [eN (gz h.p0)];exact h.p0,?_,λn x t z j=>?_,λn z j=>?_,?_,λy O=>fR _ (h.wp y O),λp x c=>?_⟩ A E
  .rw [mR k i] at c
   split at c
   .rename_i m
    rcases eF.mp c with c |c
    .rw [m];exact h.fwd a p c
    .rw [dt.mp c,m];exact k
   .exact h.fwd n p c
  .exact eP.mpr (iz h.nd (eT.mpr ⟨eg,eI⟩) (λQ L b N q=>u (by rw [<-dt.mp N,<-q];exact L)))
  .rw [G]
   rcases s j with d |⟨d,w⟩
   .have I:n<r.steps.length:=h.len▸gz d
    clear C k i F A G j I;by_cases B:n=a/\x=g
    .obtain ⟨rfl,rfl⟩:=B
     rw [if_pos ⟨rfl,rfl⟩]
     rw [o] at d
     obtain rfl:=d5 d
     constructor
     .intro e;obtain rfl:=d5 e;exact E
     .intro e
      rcases s e with e |⟨e,_⟩
      .exact absurd (fi e) u
      .rw [e]
    .rw [if_neg B,h.step n x t z d]
     constructor
     .intro e;rw [eN (gz e)];exact e
     .intro e
      rcases s e with e |⟨_,e⟩
      .exact e
      .have f:=Ob e rfl
       have m:n=a:=iR (gz d) h.nd|>.mp (by rw [d,o,f.1])
       exact absurd ⟨m,EE f.2⟩ B
   .have m:n≠a:=λq=>jg a (by rw [<-q] at k⊢;exact d▸k)
    rw [if_neg λq=>m q.1]
    have K:r.step n x=none:=by
     unfold U_
     rw [yE (by rw [d];exact jg _)];rfl
    rw [K]
    constructor
    .intro e;contradiction
    .intro e
     rw [w] at e
     rcases s e with e |⟨_,e⟩
     .exact absurd (h.pc _ _ (fi e)) u
     .have:=congrArg fj e
      rw [bh] at this
      exact absurd this (oz (fH _))
  .have M:(r.grow a g).end n=if n=r.steps.length then -1 else r.end n:=by
    unfold xZ Au.end;rw [i]
    show (r.ends++[-1]).getD n (-1)=_
    rw [ec,ec]
    rcases j' n r.ends.length with f |f
    .rw [eN f,if_neg (by rw [<-h.ok.len];exact rx f)]
    .rw [fk f,i_ f]
     rcases n -r.ends.length with ⟨⟩<;>(split<;>rfl)
   rw [M]
   rcases s j with d |⟨d,w⟩
   .rw [if_neg (rx (h.len▸gz d))];exact h.ends n z d
   .rw [if_pos d,w]
    exact (Bt λl J=>u (h.wp _ J)).symm
  .intro p c
   rcases eF.mp c with c |c
   .exact h.pre p c
   .rw [dt.mp c];exact .inr C
  .rcases eF.mp c with c |c
   .exact fR _ (h.pc p x c)
   .rw [(Ob (dt.mp c) rfl).1]
    exact fR _ (fi o)
theorem Ej (c:a7.Pairwise λa b=>a.1<b.1):(a7.map (·.1)).Nodup:=gi.mpr (l_ (S:=λa b:Row=>a.1≠b.1) (λ{a b} h q=>oh b.1 (by rw [q] at h;exact h)) c)
theorem oG.go:∀(w u:g_) {A:Au} {ps:List g_} {k:Nat},oG a7 A ps aQ->ps[k]? =some u->(∃r∈a7,r.1=u++w)->∃c,oG a7 (jH A k w).1 c aQ/\c[(jH A k w).2]? =some (u++w)
 |[],u,A,ps,k,h,b,_=>ej ps h (by rw [eR];exact b)
 |a::w,u,A,ps,k,h,b,⟨r,i,e⟩=>by
  refine jS (h.grow (g:=a) b (ej r i (by rw [e];exact (oK w (by rw [eC];rfl))))) λc t p f n=>?_
  have l:((A.grow k a).step k a).getD 0=t:=by rw [f];rfl
  have j:u++[a]++w=u++a::w:=by rw [eC];rfl
  clear h b f;refine eS (oG.go w (u++[a]) p n (ej r i (by rw [j];exact e))) λd o m=>?_
  refine ej d ?_ ?_
  .show oG a7 (jH (A.grow k a) (((A.grow k a).step k a).getD 0) w).1 d aQ
   rw [l];exact o
  .show d[(jH (A.grow k a) (((A.grow k a).step k a).getD 0) w).2]? =_
   rw [l,<-j];exact m
theorem Kv (h:∀q∈a7,q.1≠bj.1):xQ (a7++[bj]) av=if av=bj.1 then bj.2 else xQ a7 av:=by
 unfold xQ
 rw [List.find?_append]
 by_cases a:av=bj.1
 .rw [if_pos a,jL.mpr λq b e=>h q b (by rw [of_decide_eq_true e];exact a)]
  rw [GJ (p:=λq:Row=>decide (q.1=av)) (decide_eq_true a.symm)];rfl
 .rw [if_neg a]
  have:([bj].find? λq=>decide (q.1=av))=none:=jL.mpr λq b e=>a (by rw [<-of_decide_eq_true e,dt.mp b])
  rw [this,Option.or_none]
theorem oG.add (h:oG a7 r aM aQ) (i:bj∈a7) (g:∀q∈aQ,q.1≠bj.1):∃d,oG a7 (r.add bj.1 bj.2) d (aQ++[bj]):=by
 refine eS (oG.go bj.1 [] h h.p0 (ej bj i rfl)) λd a b=>?_
 have b:d[(jH r 0 bj.1).2]? =some bj.1:=b
 refine oK d ⟨h.ok.add _ _,a.fwd,a.len,a.p0,a.nd,a.step,λn j f=>?_,a.pre,λq c=>?_,a.pc⟩
 .rw [Kv g]
  show ((jH r 0 bj.1).1.ends.set (jH r 0 bj.1).2 bj.2).getD n (-1)=_
  rw [ec,nK]
  by_cases e:(jH r 0 bj.1).2=n
  .rw [if_pos e,if_pos (by rw [a.ok.len,<-a.len];exact gz b)]
   rw [e,f] at b
   rw [if_pos (d5 b)];rfl
  .rw [if_neg e,<-ec]
   rw [if_neg λq=>e ((iR (gz b) a.nd).mp (by rw [b,f,q]))]
   exact a.ends n j f
 .rcases eF.mp c with c |c
  .exact a.wp q c
  .rw [dt.mp c];exact fi b
theorem NO:∀(a:List Row) {A:Au} {ps:List g_} {b:List Row},oG a7 A ps b->(∀r∈a,r∈a7)->((b++a).map (·.1)).Nodup->∃f,oG a7 (jl A a) f (b++a):=by
 intro k
 induction k with
 |nil=>
  intro A ps b h _ _
  exact ⟨ps,by rw [eR];exact h⟩
 |cons r a l=>
  intro A ps b h g c
  obtain ⟨f,j⟩:=h.add (g r (.head _)) λq d e=>by
   rw [b_,eP] at c
   exact c.2.2 _ (fE d) r.1 (.head _) e
  have e:b++[r]++a=b++r::a:=by rw [eC];rfl
  obtain ⟨m,i⟩:=l j (λq d=>g q (.tail _ d)) (by rw [e];exact c)
  exact ⟨m,e▸i⟩
theorem Ue:oG a7 A8 [[]] [] where
 ok:=HJ
 fwd n p b:=by
  have:=wu b
  have c:n=0:=iZ.mp this.1
  subst c;contradiction
 len:=rfl
 p0:=rfl
 nd:=eT.mpr ⟨eg,eI⟩
 step n g t f a:=by
  have c:n=0:=iZ.mp (gz a)
  subst c
  (injection a with a;subst a)
  exact ⟨λe=>(by contradiction),λe=>by
   have d:t=0:=iZ.mp (gz e)
   subst d;(injection e;contradiction)⟩
 ends n f a:=by
  have c:n=0:=iZ.mp (gz a)
  subst c;rfl
 pre p b:=.inl (dt.mp b)
 wp:=(by intros;contradiction)
 pc p g b:=by
  have:=congrArg fj (dt.mp b)
  rw [bh] at this;contradiction
theorem oG.begin (h:oG a7 r aM aQ) (p:g_):∀(q:g_),p++q∈aM->p∈aM:=by
 intro q
 induction q using snoc_ind with
 |h0=>intro a;rwa [eR] at a
 |h1 q g b=>intro a;rw [<-eC] at a;exact b (h.pc _ _ a)
theorem oG.x5 (h:oG a7 r aM aQ) (q:a7.Perm aQ) (o:a7.Pairwise λF b=>F.1<b.1) (w:∀d∈a7,10<=d.2):tS r (λn=>gH a7 (aM.getD n [])):=by
 have B:=Ej o
 have D:(aQ.map (·.1)).Nodup:=(q.map _).nodup B
 have v:∀n,n<r.steps.length->∃c,aM[n]? =some c/\aM.getD n []=c:=λn f=>by
  have E:n<aM.length:=h.len▸f
  have e:=dj E
  exact ej _ e (by rw [ec,e];rfl)
 have y:∀p,∀d∈gH a7 p,10<=d.2:=λp d i=>w (p++d.1,d.2) (mS.mp i)
 have A:∀p,sJ (gH a7 p)=xQ aQ p:=λp=>by
  by_cases j:∃l,(p,l)∈aQ
  .refine j_ j λl j=>?_
   rw [Ku D j]
   have:([],l)∈gH a7 p:=mS.mpr (by rw [eR];exact q.mem_iff.mpr j)
   exact ((sN (vw o p) (y p)).mp this).1.symm
  .rw [Bt λl w=>j (oK l w)]
   refine gh λH=>j (oK (sJ (gH a7 p)) (q.mem_iff.mp ?_))
   have:=mS.mp ((sN (vw o p) (y p)).mpr ⟨rfl,H⟩)
   rwa [eR] at this
 refine ⟨h.ok,λn f=>?_,λn g t f u=>?_,λn g f u=>?_,λn _=>vw o _,λn _=>y _⟩
 .refine eS (v n f) λc k m=>?_
  rw [m,A];exact h.ends n c k
 .refine eS (v n f) λc k m=>?_
  have s:=(h.step n g t c k).mp u
  have C:aM.getD t []=c++[g]:=by rw [ec,s];rfl
  show gH a7 (aM.getD t [])=after (gH a7 (aM.getD n [])) g/\after (gH a7 (aM.getD n [])) g≠[]
  rw [C,m]
  unfold after
  rw [tC]
  refine ⟨rfl,?_⟩
  rcases h.pre _ (fi s) with J |⟨d,i,z⟩
  .have:=congrArg fj J
   rw [bh] at this;contradiction
  .refine j_ z λx G=>?_
   exact rE (a:=(x,d.2)) (mS.mpr (by show (c++[g]++x,d.2)∈a7;rw [G];exact i))
 .refine eS (v n f) λc k m=>?_
  show after (gH a7 (aM.getD n [])) g=[]
  rw [m]
  unfold after
  rw [tC]
  refine zO.mpr λd i=>?_
  have i:=mS.mp i
  have I:=h.wp _ (q.mem_iff.mp i)
  refine j_ (eZ.mp (h.begin _ _ I)) λt s=>?_
  rw [(h.step n g t c k).mpr s] at u
  contradiction
theorem oG.Ta (h:oG a7 r aM aQ) (k:∀a∈a7,DY a.1):RT r:=λi g d=>by
 refine iQ g (ck.mp d) λp b=>?_
 have l:=(wu b).1
 have f:i<aM.length:=h.len▸l
 have e:=dj f
 have j:r.step i p.1=some p.2:=vp (h.ok.rO i) b
 have o:=(h.step i p.1 p.2 _ e).mp j
 rcases h.pre _ (fi o) with n |⟨a,m,c⟩
 .have:=congrArg fj n
  rw [bh] at this;contradiction
 .exact k a m p.1 (c.subset (fT _ (.head _)))
theorem Gl (c:a7.Perm aQ) (d:a7.Pairwise λa b=>a.1<b.1) (i:∀r∈a7,10<=r.2) (g:∀r∈a7,DY r.1):∃L,tS (jl A8 aQ) L/\L 0=a7/\RR (jl A8 aQ)/\RT (jl A8 aQ):=by
 have f:=Ej d
 obtain ⟨ps,h⟩:=NO (a7:=a7) aQ Ue (λr e=>c.mem_iff.mpr e) ((c.map _).nodup f)
 refine qU _ (h.x5 c d i) ?_ h.fwd (h.Ta g)
 show gH a7 (ps.getD 0 [])=a7
 rw [ec,h.p0];exact tB a7
noncomputable def C1 (R:List Row) (spot:Nat) (b:Nat×Int):List Int->Nat×Int
 |[]=>b
 |g::s=>if after R g=[] then b else C1 (after R g) (spot+1) (if sJ (after R g)= -1 then b else (spot+1,sJ (after R g))) s
theorem NP (G:tS r aq):∀(s:List Int) (k c:Nat) (b:Nat×Int),k<r.steps.length->iC r k c b s=C1 (aq k) c b s:=by
 intro h
 induction h with
 |nil=>
  intro _ _ _ _
  exact rfl
 |cons g s i=>
  intro k c b e
  show _=if after (aq k) g=[] then b else _
  induction a:r.step k g with
  |none=>rw [nS a,if_pos (G.stop k g e a)]
  |some t=>
   have d:=oa G.ok a
   refine iK (G.step k g t e a) λj f=>?_
   rw [o6 a,if_neg f,i t (c+1) _ d,G.fin t d,j]
structure B4 (R:List Row):Prop where
 CQ:R.Pairwise λa b=>a.1<b.1
 HG:∀r∈R,10<=r.2
theorem B4.after (h:B4 a7) (u:g_):B4 (gH a7 u):=⟨vw h.CQ u,λr a=>h.HG (u++r.1,r.2) (mS.mp a)⟩
theorem B4.uniq (h:B4 a7) (l:bj∈a7) (k:cM∈a7) (e:bj.1=cM.1):bj=cM:=by
 have f:=Ej h.CQ
 obtain ⟨i,a⟩:=eZ.mp l
 obtain ⟨j,c⟩:=eZ.mp k
 have b:(a7.map (·.1))[i]? =some bj.1:=by rw [ee,a];rfl
 have d:(a7.map (·.1))[j]? =some cM.1:=by rw [ee,c];rfl
 have g:i=j:=(iR (gz b) f).mp (by rw [b,d,e])
 rw [g,c] at a
 exact (d5 a).symm
theorem Kw:∀(s:List Int) {R:List Row} (a:Nat) (b:Nat×Int),B4 R->
 (∃r∈R,r.1≠[]/\r.1<+:s/\(∀q∈R,q.1<+:s->q.1.length<=r.1.length)/\C1 R a b s=(a+r.1.length,r.2))\/((∀r∈R,r.1<+:s->r.1=[])/\C1 R a b s=b):=by
 intro E
 induction E with
 |nil=>
  intro R a b _
  exact .inr ⟨λr _ h=>List.prefix_nil.mp h,rfl⟩
 |cons g s A=>
  intro R a b h
  have n:∀r∈R,r.1<+:g::s->r.1=[]\/∃w,r.1=g::w/\w<+:s/\(w,r.2)∈after R g:=λr i f=>by
   induction d:r.1 using el with
   |nil=>exact .inl rfl
   |cons x w=>
    rw [d] at f
    refine iK (jR.mp f) λe C=>?_
    clear A h f;subst e
    exact .inr (gr w rfl C (jU.mpr (by rw [<-d];exact i)))
  by_cases z:after R g=[]
  .refine .inr ⟨λr i f=>(n r i f).elim id λp=>?_,if_pos z⟩
   refine gj p λw _ _ c=>?_
   rw [z] at c;exact (eg c).elim
  .have m:=h.after [g]
   have y:C1 R a b (g::s)=C1 (after R g) (a+1) (if sJ (after R g)= -1 then b else (a+1,sJ (after R g))) s:=if_neg z
   rcases A (a+1) (if sJ (after R g)= -1 then b else (a+1,sJ (after R g))) m with ⟨r,i,u,j,B,D⟩ |⟨u,j⟩
   .refine .inl ⟨(g::r.1,r.2),(jU.mp i),(qb _ _),(jR.mpr ⟨rfl,j⟩),(λq v o=>?_),?_⟩
    .rcases n q v o with e |⟨w,e,d,c⟩
     .rw [e];exact fy _
     .rw [e];exact fh (B _ c d)
    .rw [y]
     refine D.trans ?_
     show (a+1+r.1.length,r.2)=(a+(r.1.length+1),r.2)
     rw [fJ,eY 1]
   .by_cases k:sJ (after R g)= -1
    .refine .inr ⟨λr i f=>(n r i f).elim id λp=>?_,by rw [y,if_pos k];rw [if_pos k] at j;exact j⟩
     refine gj p λw e d c=>?_
     have t:w=[]:=u _ c d
     subst t
     exact absurd k ((sN m.CQ m.HG).mp c).2
    .have c:=(sN m.CQ m.HG (p:=sJ (after R g))).mpr ⟨rfl,k⟩
     refine .inl ⟨([g],sJ (after R g)),(jU.mp c),(qb _ _),(jR.mpr ⟨rfl,uj⟩),(λq v o=>?_),(by rw [y,if_neg k];rw [if_neg k] at j;exact j)⟩
     rcases n q v o with e |⟨w,e,d,F⟩
     .rw [e];exact fy _
     .have t:w=[]:=u _ F d
      rw [e,t];exact eJ _
theorem H2:∀(d f:List Row),f ⊆ mQ f d:=by
 intro c
 induction c with
 |nil=>
  intro _
  exact λ_ h=>h
 |cons x d b=>
  intro f
  exact λq a=>b _ (by
  split
  .exact a
  .exact fR _ a)
theorem H3:∀(d f:List Row) {q:Row},q∈mQ f d->q∈f\/(q∈d/\∀p∈f,jy q.1 p.1=false):=by
 intro e
 induction e with
 |nil=>
  intro _ _ h
  exact .inl h
 |cons x d c=>
  intro f q h
  by_cases a:f.any (λq=>jy x.1 q.1)=true
  .have h:q∈mQ f d:=by
    have:mQ f (x::d)=mQ f d:=by show mQ (if _ then _ else _) d=_;rw [if_pos a]
    rwa [this] at h
   exact (c f h).imp id λh=>⟨.tail _ h.1,h.2⟩
  .have h:q∈mQ (f++[x]) d:=by
    have:mQ f (x::d)=mQ (f++[x]) d:=by show mQ (if _ then _ else _) d=_;rw [if_neg a]
    rwa [this] at h
   rcases c _ h with h |h
   .rcases eF.mp h with h |h
    .exact .inl h
    .rw [dt.mp h]
     refine .inr ⟨.head _,λp b=>?_⟩
     rw [mK,nL] at a
     exact nM.mpr (a p b)
   .exact .inr ⟨.tail _ h.1,λp b=>h.2 p (fR _ b)⟩
theorem Jk (d:List Row):((live d).map (·.1)).Nodup:=by
 induction d using snoc_ind with
 |h0=>exact eI
 |h1 d r e=>
  rw [oY]
  by_cases c:(live d).any (λq=>jy r.1 q.1)=true
  .rw [if_pos c];exact e
  .rw [if_neg c,b_]
   rw [mK,nL] at c
   refine eP.mpr ⟨e,eT.mpr ⟨eg,eI⟩,λa g b f q=>?_⟩
   refine eS (ck.mp g) λp i h=>?_;clear e g;subst h
   have f:b=r.1:=dt.mp f
   exact c p i (gL.mpr (by rw [<-f,<-q];exact List.prefix_refl _))
theorem Bu (d:∀q∈a7,jy av q.1=false) (j:jy av bj.1=true):bj∈live (a7++bj::aQ)/\∀q∈live (a7++bj::aQ),jy av q.1=true->q.1.length<=bj.1.length:=by
 have g:live (a7++bj::aQ)=mQ (live (a7++[bj])) aQ:=by
  rw [show a7++bj::aQ=(a7++[bj])++aQ by rw [eC];rfl];exact FJ _ _ _
 have e:=gL.mp j
 have b:∀q∈live a7,q∈a7:=λq a=>(xD a7 []).subset a
 have l:live (a7++[bj])=live a7++[bj]:=by
  rw [oY,if_neg]
  rw [mK,nL]
  exact λq a i=>by
   have:=d q (b q a)
   rw [gL.mpr ((gL.mp i).trans e)] at this
   contradiction
 rw [g,l]
 refine ⟨H2 _ _ (fT _ (.head _)),λq a c=>?_⟩
 have f:=gL.mp c
 rcases H3 _ _ a with a |⟨_,a⟩
 .rcases eF.mp a with a |a
  .rw [d q (b q a)] at c;contradiction
  .rw [dt.mp a];exact eJ _
 .have k:=a bj (fT _ (.head _))
  rcases ui q.1.length bj.1.length with h |h
  .exact h
  .rw [gL.mpr (zz e f h)] at k;contradiction
theorem Bv (c:(aU.map (·.1)).Nodup):(p::av,aB)∈j2 aU↔(av,aB)∈live ((aU.lookup p).getD []):=by
 have l:∀a∈aU,aU.lookup a.1=some a.2:=λa b=>by
  refine qW (nc b) λj g e=>?_
  rw [e] at c⊢
  rw [b_,eP] at c
  refine gT.mpr (nB j g rfl (λq n=>?_))
  rw [bne_iff_ne]
  exact λf=>c.2.2 _ (fE n) a.1 (.head _) f.symm
 constructor
 .intro h
  refine eS (ot.mp h) λa b k=>?_
  refine eS (ck.mp k) λr m e=>?_
  have i:=fq (k7 e).1
  have f:r.2=aB:=(k7 e).2
  rw [<-i.1,l a b,<-i.2,<-f];exact m
 .intro h
  induction d:aU.lookup p using d_ with
  |none=>rw [d] at h;contradiction
  |some o=>
   rw [d] at h
   refine i5 (gT.mp d) λj g e _=>?_
   exact ot.mpr (ej (p,o) (by rw [e];simp) (ck.mpr ⟨(av,aB),h,rfl⟩))
theorem Ky (d:(aU.map (·.1)).Nodup):((j2 aU).map (·.1)).Nodup:=by
 induction aU with
 |nil=>exact eI
 |cons p aU g=>
  rw [eG,eT] at d
  show ((((live p.2).map (jP p.1))++j2 aU).map (·.1)).Nodup
  rw [b_,et]
  refine eP.mpr (iz ?_ (g d.2) (λa j b i q=>?_))
  .have:=B_ (R:=(·≠·)) (S:=(·≠·)) (Oa p.1) (λa b h q=>h (fq q).2) (Jk p.2)
   rwa [et] at this
  .refine eS (ck.mp j) λr _ c=>?_;subst c
   refine eS (ck.mp i) λx f c=>?_;subst c
   refine eS (ot.mp f) λl k e=>?_
   clear g j f i;refine eS (ck.mp e) λy _ c=>?_;clear e;subst c
   exact d.1 ((fq q).1▸fE k)
theorem zq (j:(aU.map (·.1)).Nodup):∃W:List Row,W.Perm (j2 aU)/\W.Pairwise λa b=>a.1<b.1:=by
 have d:=wH (j2 aU) λa b=>decide (a.1<=b.1)
 refine ej _ d ?_
 have e:=tJ (le:=λa b:Row=>decide (a.1<=b.1)) (λa b c d e=>decide_eq_true (Q0 (of_decide_eq_true d) (of_decide_eq_true e))) (λa b=>by
  rw [j1,decide_eq_true_iff,decide_eq_true_iff];exact Q1 a.1 b.1) (j2 aU)
 have g:((j2 aU).mergeSort λa b=>decide (a.1<=b.1)).Pairwise λa b=>a.1≠b.1:=gi.mp ((d.map λr:Row=>r.1).symm.nodup (Ky j))
 refine (uY.mpr ⟨e,g⟩).imp λ{a b} h=>?_
 have i:a.1<=b.1:=of_decide_eq_true h.1
 exact gh λf=>h.2 (N8 i (SW.mp f))
structure Jl (T:Table) (W:List Row):Prop where
 perm:W.Perm (j2 T)
 CQ:W.Pairwise λa b=>a.1<b.1
theorem Jl.P4 (h:Jl aU a7) (c:vm aU a):B4 a7:=⟨h.CQ,λr b=>(D1 c r (h.perm.mem_iff.mp b)).2.2.1⟩
noncomputable def uV (T:Table) (s:g_):List Row:=(T.lookup (s.headD 0)).getD []
noncomputable def firstM (T:Table) (s:g_):Option Row:=(uV T s).find? λr=>jy (s.drop 1) r.1
theorem Ek (G:tS r aq) (A:aq 0=a7) (k:Jl aU a7) (j:vm aU a) (t:av≠[]):j6 r av=match firstM aU av with |some q=>(1+q.1.length,q.2) |none=>(0,-1):=by
 refine Lk av (gg t) λg av=>?_
 unfold j6
 rw [NP G _ _ _ _ G.ok.pos,A]
 have v:=k.P4 j
 have n:∀w l,(g::w,l)∈a7↔(w,l)∈live (uV aU (g::av)):=λw l=>k.perm.mem_iff.trans (Bv j.keys)
 rcases Kw (g::av) 0 (0,-1) v with ⟨i,I,m,c,J,C⟩ |⟨m,c⟩
 .rw [C,iW]
  refine qW (gg m) λx w e=>?_
  rw [e] at c
  refine iK (jR.mp c) λO o=>?_
  clear G A k j t m C c;subst O
  have F:(w,i.2)∈live (uV aU (x::av)):=(n w i.2).mp (by rw [<-e];exact I)
  induction d:firstM aU (x::av) using d_ with
  |none=>
   have:=jL.mp d (w,i.2) ((xD _ []).subset F)
   exact absurd (gL.mpr o) this
  |some q=>
   obtain ⟨f,N,z,y,s⟩:=mU.mp d
   clear d;obtain ⟨h,D⟩:=Bu (av:=av) (λp u=>by have:=s p u;rwa [fL] at this) f (aQ:=z)
   rw [<-y] at h D
   have E:(x::q.1,q.2)∈a7:=(n q.1 q.2).mpr h
   have M:(x::q.1)<+:x::av:=jR.mpr ⟨rfl,gL.mp f⟩
   have B:=J _ E M
   have L:=D (w,i.2) F (gL.mpr o)
   rw [e] at B
   have H:q.1.length=w.length:=ir (gZ B) L
   have K:q.1=w:=zz (gL.mp f) o (gv H)|>.eq_of_length H
   have:(x::q.1,q.2)=i:=v.uniq E I (by rw [e,K])
   rw [<-this]
   show (q.1.length+1,q.2)=(1+q.1.length,q.2)
   rw [eY]
 .rw [c]
  clear G A k j t v c;induction d:firstM aU (g::av) using d_ with
  |none=>rfl
  |some q=>
   obtain ⟨f,N,z,y,s⟩:=mU.mp d
   clear d;obtain ⟨h,_⟩:=Bu (av:=av) (λp u=>by have:=s p u;rwa [fL] at this) f (aQ:=z)
   rw [<-y] at h
   exact absurd (m _ ((n q.1 q.2).mpr h) (jR.mpr ⟨rfl,gL.mp f⟩)) (qb _ _)
theorem yN (f:vm aU a) (h:firstM aU av=some bj):bj.2≠-1:=by
 have b:=sl h
 unfold uV at b
 induction c:aU.lookup (av.headD 0) using d_ with
 |none=>rw [c] at b;contradiction
 |some d=>
  rw [c] at b
  refine i5 (gT.mp c) λg i e _=>?_
  have:=(f.rows (av.headD 0,d) (by rw [e];simp) bj b).HG
  exact λbj=>by rw [bj] at this;exact absurd this (by decide)
theorem Gm (T:Table) (s:g_):o7 T s=match firstM T s with |some q=>(1+q.1.length,q.2) |none=>(1,s.headD 0):=by
 unfold o7 firstM uV
 cases ((T.lookup (s.headD 0)).getD []).find? (λr=>jy (s.drop 1) r.1)<;>rfl
theorem Gn (w:g_) (b:Nat×Int):∀a:List Row,a.reverse.foldl (yJ w) b=match a.find? (λr=>jy w r.1) with |some q=>(1+q.1.length,q.2) |none=>b:=by
 intro d
 induction d with
 |nil=>
  exact rfl
 |cons r a c=>
  rw [nJ,iS,c]
  show yJ w _ r=_
  unfold yJ
  by_cases h:w.take r.1.length=r.1
  .rw [if_pos h,GJ (p:=λr:Row=>jy w r.1) (decide_eq_true h)]
  .rw [if_neg h,GK (p:=λr:Row=>jy w r.1) (by unfold jy;rw [decide_eq_false h];exact gM)]
theorem yO (s:g_) (b:Nat×Int) (T:Table):wz s b T=match firstM T s with |some q=>(1+q.1.length,q.2) |none=>b:=Gn _ _ _
theorem uW (T:Table) (s:g_):i4 [T] s=o7 T s:=by
 rw [Gm];exact yO _ _ _
theorem Jm (G:tS r aq) (e:aq 0=a7) (c:Jl aU a7) (b:vm aU a) (d:av≠[]):fY [r] av=o7 aU av:=by
 rw [qN,Gm,Ek G e c b d]
 induction h:firstM aU av with
 |none=>exact if_pos rfl
 |some q=>exact if_neg (yN b h)
variable {bV:Au}
theorem NQ {c:Nat->List Row} {b:Table} (G:tS r aq) (p:aq 0=a7) (g:Jl aU a7) (f:vm aU a) (m:tS bV c) (j:c 0=aQ) (n:Jl b aQ) (d:vm b a) (e:av≠[]):fY [r,bV] av=i4 [aU,b] av:=by
 have l:i4 [aU,b] av=wz av (wz av (1,av.headD 0) b) aU:=rfl
 have o:fY [r,bV] av=if (oR [bV] av (j6 r av)).2= -1 then (1,av.headD 0) else oR [bV] av (j6 r av):=rfl
 have k:oR [bV] av (j6 r av)=if (j6 r av).2= -1 then j6 bV av else j6 r av:=rfl
 rw [l,o,k,yO,yO,Ek G p g f e,Ek m j n d e]
 induction h:firstM aU av using d_ with
 |none=>
  induction i:firstM b av using d_ with
  |none=>rfl
  |some q=>exact if_neg (yN d i)
 |some q=>
  have:=yN f h
  simp only [if_neg this]
theorem rn {f g:List Int->Nat×Int} (h:∀s,s≠[]->f s=g s):∀(n:Nat) (s:List Int),iF f n s=iF g n s
 |0,_=>rfl
 |_+1,[]=>rfl
 |n+1,x::s=>by
  show (f (x::s)).2::iF f n _=(g (x::s)).2::iF g n _
  rw [h _ (qb _ _),rn h n]
theorem Gp:∀(h:List Int) (k d:Nat) (b:Nat×Int) (m:List Int),jF r k h=false->iC r k d b (h++m)=iC r k d b h:=by
 intro i
 induction i with
 |nil=>
  intro k d b m a
  induction m using el with
  |nil=>rfl
  |cons g m=>
   have f:r.at k=[]:=by
    have:(!(r.at k).isEmpty)=false:=a
    rw [jM] at this
    exact qa.mp this
   have:r.step k g=none:=by unfold U_;rw [f];rfl
   exact nS this
 |cons g h e=>
  intro k d b m a
  induction c:r.step k g using d_ with
  |none=>rw [iI,nS c,nS c]
  |some t=>
   have a:jF r t h=false:=by
    have:(match r.step k g with |none=>false |some t=>jF r t h)=false:=a
    rwa [c] at this
   rw [iI,o6 c,o6 c,e t _ _ m a]
theorem Kz (m:List Int) (b:0<a8.length) (a:jF r 0 a8=false):fY [r] (a8++m)=fY [r] a8:=by
 rw [qN,qN]
 have:j6 r (a8++m)=j6 r a8:=Gp a8 0 0 (0,-1) m a
 rw [this]
 clear a;induction a8 using el with
 |nil=>contradiction
 |cons g a8=>rfl
theorem Gq:∀(f:Nat) (h m:List Int),h.length<=f->iF (fY [r]) (h++m).length (h++m)=(jx r h.length h).1++iF (fY [r]) ((jx r h.length h).2++m).length ((jx r h.length h).2++m)
 |0,[],m,_=>rfl
 |f+1,[],m,_=>rfl
 |f+1,g::h,m,d=>by
  have a:0<(g::h).length:=fB _
  rw [vr a]
  induction e:jF r 0 (g::h) using j5 with
  |true=>rfl
  |false=>
   have b:=q8 [r] a
   have c:0<((g::h)++m).length:=by rw [bh];exact ei a (eh _ _)
   rw [sM _ (p7 r) c,Kz m a e,List.drop_append_of_le_length b.1]
   have i:((g::h).drop (fY [r] (g::h)).1).length<=f:=by rw [ey];exact eX (ei (kf a b.2) d)
   rw [Gq f _ m i];rfl
theorem C2:∀(f:Nat) (h:List Int),h.length<=f->(jx r h.length h).2=[]\/jF r 0 (jx r h.length h).2=true
 |0,[],_=>.inl rfl
 |f+1,[],_=>.inl rfl
 |f+1,g::h,b=>by
  have a:0<(g::h).length:=fB _
  rw [vr a]
  induction c:jF r 0 (g::h) using j5 with
  |true=>exact .inr c
  |false=>
   have d:=q8 [r] a
   exact C2 f _ (by rw [ey];exact eX (ei (kf a d.2) b))
theorem C3 (d:List Int) (g:Int):kk r (d++[g])=((kk r d).1++(jx r ((kk r d).2++[g]).length ((kk r d).2++[g])).1,(jx r ((kk r d).2++[g]).length ((kk r d).2++[g])).2):=by
 rw [vt,show ((kk r d).2++[g]).length=(kk r d).2.length+1 from bh]
theorem P5 (d:List Int):∀m,iF (fY [r]) (d++m).length (d++m)=(kk r d).1++iF (fY [r]) ((kk r d).2++m).length ((kk r d).2++m):=by
 induction d using snoc_ind with
 |h0=>exact λ_=>rfl
 |h1 d g a=>
  intro m
  rw [eC,a ([g]++m),C3,<-eC,Gq _ _ m (eJ _),eC]
theorem P6 (a:List Int):(kk r a).1++iF (fY [r]) (kk r a).2.length (kk r a).2=iF (fY [r]) a.length a:=by
 have:=P5 (r:=r) a []
 rw [eR,eR] at this
 exact this.symm
theorem KA (G:tS r aq):∀(h:List Int) (k:Nat),k<r.steps.length->jF r k h=true->∃b∈aq k,∃g w,b.1=h++g::w:=by
 intro j
 induction j with
 |nil=>
  intro k f a
  have:(!(r.at k).isEmpty)=true:=a
  rw [fL,<-mK,qa] at this
  refine j_ (i7 _ this) λp i=>?_
  have m:=(G.keys f).2 p.1 (fE i)
  refine j_ (i7 _ m) λb c=>?_
  exact ⟨_,(jU.mp c),p.1,b.1,rfl⟩
 |cons g h l=>
  intro k f a
  have a:(match r.step k g with |none=>false |some t=>jF r t h)=true:=a
  induction d:r.step k g using d_ with
  |none=>rw [d] at a;contradiction
  |some t=>
   rw [d] at a
   refine Ls (l t (oa G.ok d) a) λb c x w e=>?_
   rw [(G.step k g t f d).1] at c
   exact ⟨_,(jU.mp c),x,w,(by show g::b.1=_;rw [e];rfl)⟩
theorem NR (G:tS r aq) (d:List Int):(kk r d).2=[]\/∃a∈aq 0,(kk r d).2.length<a.1.length/\jy a.1 (kk r d).2=true:=by
 have c:(kk r d).2=[]\/jF r 0 (kk r d).2=true:=by
  induction d using snoc_ind with
  |h0=>exact .inl rfl
  |h1 d g _=>rw [C3];exact C2 _ _ (eJ _)
 refine c.imp id λf=>?_
 refine Ls (KA G _ 0 G.ok.pos f) λa b g w e=>?_
 refine gr a b ?_ (gL.mpr ⟨_,e.symm⟩)
 rw [e,bh,e_]
 exact gk (fB _)
theorem wB (c:dq.Nodup) (d:dT.Nodup) (b:∀x,x∈dq↔x∈dT):dq.length=dT.length:=
 ir (c.length_le_of_subset λx a=>(b x).mp a) (d.length_le_of_subset λx a=>(b x).mpr a)
theorem yP (g:dq.Nodup) (f:∀a∈dq,∀b∈dq,dA a=dA b->a=b):(dq.map dA).Nodup:=
 gi.mpr (x9 (S:=λa b=>dA a≠dA b) (λ{a b} e d c q=>c (f a e b d q)) g)
theorem tS.reach (G:tS r aq):∀(u:g_) (k:Nat),k<r.steps.length->gH (aq k) u≠[]->∃j,j<r.steps.length/\aq j=gH (aq k) u:=by
 intro f
 induction f with
 |nil=>
  intro k a _
  exact ej k a (tB _).symm
 |cons g u i=>
  intro k a h
  have e:gH (aq k) (g::u)=gH (after (aq k) g) u:=(tC (aq k) [g] u).symm
  rw [e] at h⊢
  have l:after (aq k) g≠[]:=λq=>by rw [q] at h;exact h rfl
  refine gj (G.qO a l) λt _ b c=>?_
  refine eS (i t c (by rw [b];exact h)) λj m d=>?_
  exact ej j m (by rw [d,b])
theorem C4:av∈vS a7↔av=[]\/(av≠[]/\gH a7 av≠[]):=by
 unfold vS
 rw [eK,ot]
 constructor
 .rintro (h |⟨r,c,h⟩)
  .exact .inl h
  .refine iQ av (ck.mp h) λk b=>?_
   have b:=eU.mp b
   refine .inr ⟨λq=>?_,rE (a:=(r.1.drop (k+1),r.2)) (mS.mpr (by show (r.1.take (k+1)++r.1.drop (k+1),r.2)∈a7;rw [GZ];exact c))⟩
   have:=congrArg fj q
   rw [fS,qJ] at this
   exact WS b this
 .rintro (h |⟨h,d⟩)
  .exact .inl h
  .refine j_ (i7 _ d) λr c=>?_
   refine .inr ⟨_,mS.mp c,ck.mpr ⟨av.length -1,eU.mpr ?_,?_⟩⟩
   .have:=oH.mpr h
    show av.length -1<(av++r.1).length
    rw [bh];exact ei (kf this Qg) (eh _ _)
   .show (av++r.1).take (av.length -1+1)=av
    rw [pd (oH.mpr h),Qh]
structure sP (W:List Row) (B:Au) (L:Nat->List Row):Prop where
 x5:tS B L
 l0:L 0=W
 inj:∀i j,i<B.steps.length->j<B.steps.length->L i=L j->i=j
 rc:∀i,i<B.steps.length->∃u,L i=gH W u/\(u=[]\/L i≠[])
theorem sP.mem (h:sP a7 r aq) (R:List Row):R∈(eQ r.steps.length).map aq↔R∈rests a7:=by
 unfold rests
 rw [xO,ck,ck]
 constructor
 .intro k;refine iQ R k λi d=>?_
  refine eS (h.rc i (eU.mp d)) λu c a=>?_
  refine ej u (C4.mpr ?_) c.symm
  rcases a with a |a
  .exact .inl a
  .by_cases b:u=[]
   .exact .inl b
   .exact .inr ⟨b,c▸a⟩
 .intro f;refine iQ R f λu b=>?_
  rcases C4.mp b with rfl |⟨_,a⟩
  .exact ej 0 (eU.mpr h.x5.ok.pos) (by rw [tB];exact h.l0)
  .refine eS (h.x5.reach u 0 h.x5.ok.pos (by rw [h.l0];exact a)) λj g e=>?_
   exact ej j (eU.mpr g) (by rw [e,h.l0])
theorem sP.size (h:sP a7 r aq):r.steps.length=(rests a7).length:=by
 have:=wB (yP List.nodup_range λa d b c=>h.inj a b (eU.mp d) (eU.mp c)) (ND _) h.mem
 rwa [bb,ff] at this
theorem Gr {a b:Option Nat} (h:FC a=FC b):a=b:=by
 induction a using d_ with
 |none=>
  induction b using d_ with
  |none=>rfl
  |some y=>have:(-1:Int)=(y:Nat):=h;exact (JA this).elim
 |some x=>
  induction b using d_ with
  |none=>have:((x:Nat):Int)= -1:=h;exact (JA this.symm).elim
  |some y=>exact congrArg some (rA h)
theorem sP.Gs (h:sP a7 r aq) (b:a<r.steps.length) (g c:Int):r.step a g=r.step a c↔after (aq a) g=after (aq a) c:=by
 constructor
 .intro e
  induction d:r.step a g using d_ with
  |none=>rw [h.x5.stop a g b d,h.x5.stop a c b (e▸d)]
  |some t=>rw [<-(h.x5.step a g t b d).1,<-(h.x5.step a c t b (e▸d)).1]
 .intro e
  induction d:r.step a g using d_ with
  |none=>
   induction f:r.step a c using d_ with
   |none=>rfl
   |some t=>exact absurd (e▸h.x5.stop a g b d) (h.x5.step a c t b f).2
  |some t=>
   induction f:r.step a c using d_ with
   |none=>exact absurd (e▸h.x5.stop a c b f) (h.x5.step a g t b d).2
   |some i=>
    have k:=(h.x5.step a g t b d).1
    have j:=(h.x5.step a c i b f).1
    rw [h.inj t i (oa h.x5.ok d) (oa h.x5.ok f) (by rw [k,j,e])]
theorem sP.P7 (h:sP a7 r aq) (g b:Int):mZ r g=mZ r b↔uT (rests a7) g=uT (rests a7) b:=by
 have c:mZ r g=mZ r b↔∀j,j<r.steps.length->after (aq j) g=after (aq j) b:=by
  unfold mZ
  rw [sr]
  exact ⟨λq j a=>(h.Gs a g b).mp (Gr (q j (eU.mpr a))),λq j a=>congrArg FC ((h.Gs (eU.mp a) g b).mpr (q j (eU.mp a)))⟩
 rw [c]
 unfold uT
 rw [sr]
 constructor
 .intro q R d
  refine iQ R (ck.mp ((h.mem R).mpr d)) λj a=>?_
  exact q j (eU.mp a)
 .exact λq j a=>q _ ((h.mem _).mp (ck.mpr (ej j (eU.mpr a) rfl)))
theorem sP.sO (h:sP a7 r aq) (g:Int):mZ r g=mL r↔uT (rests a7) g=(rests a7).map λ_=>[]:=by
 have f:mL r=(eQ r.steps.length).map λ_=>(-1:Int):=by
  unfold mL
  exact (G1.mpr ⟨by rw [bb,ff],λe c=>by refine iQ e (ck.mp c) λ_ _=>?_;rfl⟩).symm
 rw [f]
 unfold mZ uT
 rw [sr,sr]
 constructor
 .intro q R d
  refine iQ R (ck.mp ((h.mem R).mpr d)) λj a=>?_
  exact h.x5.stop j g (eU.mp a) (Gr (b:=none) (q j a))
 .intro q j a
  have:=q _ ((h.mem _).mp (ck.mpr (ej j a rfl)))
  induction i:r.step j g with
  |none=>rfl
  |some t=>exact absurd this (h.x5.step j g t (eU.mp a) i).2
theorem Gu [DecidableEq t] [DecidableEq a9] {c:h->a9} (k:∀a b,dA a=dA b↔c a=c b) (l:List h):(z3 (l.map dA)).length=(z3 (l.map c)).length:=by
 induction l using snoc_ind with
 |h0=>rfl
 |h1 l x j=>
  have i:dA x∈z3 (l.map dA)↔c x∈z3 (l.map c):=by
   rw [xO,xO,ck,ck]
   exact ⟨λf=>eS f λa g e=>(ej a g ((k a x).mp e)),λf=>eS f λa g e=>(ej a g ((k a x).mpr e))⟩
  rw [b_,b_,show [x].map dA=[dA x] from rfl,show [x].map c=[c x] from rfl,pA,pA]
  by_cases d:dA x∈z3 (l.map dA)
  .rw [if_pos d,if_pos (i.mp d)];exact j
  .rw [if_neg d,if_neg λq=>d (i.mpr q),bh,bh,j];rfl
theorem sP.cols (h:sP a7 r aq) (l:yH r (sortI a8) aM aD) (s:∀d,d∈a8↔∃i,d∈(r.at i).map (·.1)) (o:DY a8):(mL r::aM).length=(NA (rests a7)).length:=by
 have t:NA (rests a7)=z3 ((none::[1,2,3,4,5].map some:List (Option Int)).map λx=>match x with |none=>(rests a7).map λ_=>[] |some d=>uT (rests a7) d):=rfl
 rewrite [t,<-Gu (dA:=λx:Option Int=>match x with |none=>mL r |some d=>mZ r d) (λa b=>?_)]
 .have y:∀d∈a8,mZ r d∈aM:=λd k=>by
   have:d∈aD.map (·.1):=by rw [l.keys];exact ip.mpr k
   refine iQ d (ck.mp this) λp n=>?_
   refine eS (l.at_ p n) λj _ H=>?_
   exact fi H
  have w:mL r∉aM:=λv=>by
   refine eS (l.mem _ v) λd k e=>?_
   refine j_ ((s d).mp (ip.mp k)) λi m=>?_
   refine eS (ck.mp m) λp n B=>?_;clear l s o t y v k m;subst B
   have z:=(wu n).1
   have C:r.step i p.1=some p.2:=vp (h.x5.ok.rO i) n
   have u:=Nt (r:=r) (p:=p.1) z
   rw [<-e,C] at u
   have D:(mL r)[i]? =some (-1):=by unfold mL;rw [tK,if_pos z]
   rw [D] at u
   have:(-1:Int)=(p.2:Nat):=d5 u
   exact JA this
  refine wB (eT.mpr ⟨w,l.nd⟩) (ND _) λc=>?_
  rw [xO,ck,eK]
  constructor
  .rintro (rfl |E)
   .exact ej none (.head _) rfl
   .refine Lg c (l.mem c E) λd k=>?_
    have:=o d (ip.mp k)
    refine ej (some d) (.tail _ (ck.mpr ⟨d,?_,rfl⟩)) rfl
    simp only [eK,eg,or_false]
    exact Dm this
  .intro I;refine iQ c I λx F=>?_
   clear h l o t w F;induction x using d_ with
   |none=>exact .inl rfl
   |some d=>
    by_cases k:d∈a8
    .exact .inr (y d k)
    .exact .inl (Mine.sO λi m=>k ((s d).mpr (oK i m)))
 .induction a using d_ with
  |none=>
   induction b using d_ with
   |none=>exact ⟨λ_=>rfl,λ_=>rfl⟩
   |some d=>exact ⟨λq=>((h.sO d).mp q.symm).symm,λq=>((h.sO d).mpr q.symm).symm⟩
  |some d=>
   induction b using d_ with
   |none=>exact h.sO d
   |some G=>exact h.P7 d G
theorem Br.least (G:tS r aq) (H:F1 r aq 0 aO cN) (b:Br r aq aO C aP a8) (g:aP.length=C.length):sP (aq 0) ⟨aP,a8⟩ (λj=>aq (C.getD j 0)):=by
 have c:∀{i:Nat},i<aP.length->∃x,C[i]? =some x/\C.getD i 0=x/\x∈C:=λ{i} a=>by
  have e:=dj (g▸a:i<C.length)
  exact gr _ e (by rw [ec,e];rfl) (fi e)
 refine ⟨b.x5 G (λn v=>(H.rg n (fy _) v).2) g,?_,λi j a t e=>?_,λi a=>?_⟩
 .show aq (C.getD 0 0)=_
  rw [ec,b.o0]
  exact (H.rg 0 (eJ _) G.ok.pos).2.2
 .refine gj (c a) λx h f d=>?_
  refine gj (c t) λy u o m=>?_
  rw [f,o] at e
  refine mW (b.rep x d) λp q _=>?_
  refine mW (b.rep y m) λs k _=>?_
  have l:=(H.ok x y (fy _) p (fy _) s).mpr e
  rw [q,k] at l
  clear G H g c a t f d e o m p q s k;subst l
  exact (iR (gz h) b.nd).mp (h.trans u.symm)
 .refine gj (c a) λx h f d=>?_
  rw [f]
  exact (b.rep x d).2.2
theorem Br.rowAt (b:Br r aq aO C aP a8) (d:aP.length=C.length) (c:aD∈aP):∃x,aD.map (·.1)=sortI ((r.at x).map (·.1)):=by
 refine j_ (eZ.mp c) λj a=>?_
 have e:=dj (d▸gz a:j<C.length)
 exact ⟨_,(b.row j aD _ a e).keys⟩
theorem Br.Ta (f:RT r) (b:Br r aq aO C aP a8) (h:aP.length=C.length):RT ⟨aP,a8⟩:=λi g a=>by
 refine eS (ck.mp a) λp c e=>?_
 refine iK (wu c) λk d=>?_
 refine j_ (b.rowAt h d) λx j=>?_
 rw [j] at a
 exact f x g (ip.mp a)
theorem Br.sorted (d:r.Ok) (h:RT r) (b:Br r aq aO C aP a8) (i:aP.length=C.length):∀s∈aP,sortI (s.map (·.1))=s.map (·.1)/\(s.map (·.1)).Nodup/\s.length<=5:=λs j=>by
 refine j_ (b.rowAt i j) λx c=>?_
 have a:=(sortI_perm ((r.at x).map (·.1))).symm.nodup (d.rO x)
 refine iz (by rw [c];exact CT a (d.rO x) λg=>ip) (by rw [c];exact a) ?_
 rw [<-bb (f:=λp:Int×Nat=>p.1),c]
 exact xM a λg e=>h x g (ip.mp e)
theorem H4:∀(b:List Int) (s:List (Int×Nat)) (k:Nat),b.Nodup->(s.map (·.1)).Sublist b->rQ k (b.map λg=>(s.lookup g).getD 0)=rQ k (s.map (·.2)):=by
 intro b
 induction b with
 |nil=>
  intro s k _ h
  have:s=[]:=jt.mp (List.sublist_nil.mp h)
  rw [this];rfl
 |cons x b l=>
  intro s k f h
  have c:=(eT.mp f)
  induction j:s using el with
  |nil=>
   have r:=l [] k c.2 (N6 _)
   show (if 0>k+1 then none else rQ (max k 0) _)=_
   rw [if_neg (o_ _),SV];exact r
  |cons p a=>
   rw [j] at h
   by_cases i:p.1=x
   .have d:(a.map (·.1)).Sublist b:=by
     rw [eG,i] at h;exact List.cons_sublist_cons.mp h
    have e:b.map (λg=>((p::a).lookup g).getD 0)=b.map λg=>(a.lookup g).getD 0:=fm λg n=>by
     clear f h j d;obtain ⟨y,v⟩:=p
     rw [eM,beq_false_of_ne λq=>c.1 (by rw [<-i];exact q▸n)]
    have m:((p::a).lookup x).getD 0=p.2:=by
     clear f c h j d e;obtain ⟨y,v⟩:=p
     rw [eM,beq_iff_eq.mpr i.symm];rfl
    show (if ((p::a).lookup x).getD 0>k+1 then none else rQ (max k (((p::a).lookup x).getD 0)) (b.map λg=>((p::a).lookup g).getD 0))=if p.2>k+1 then none else rQ (max k p.2) (a.map (·.2))
    rw [m,e,l a _ c.2 d]
   .have d:((p::a).map (·.1)).Sublist b:=by
     rw [eG] at h⊢
     clear f c j;cases h with
     |cons _ h=>exact h
     |cons_cons _ h=>exact absurd rfl i
    have m:((p::a).lookup x).getD 0=0:=by
     clear f h j i;induction o:(p::a).lookup x with
     |none=>rfl
     |some t=>
      exact absurd (d.subset (nQ.mp (by rw [o];rfl))) c.1
    show (if ((p::a).lookup x).getD 0>k+1 then none else rQ (max k (((p::a).lookup x).getD 0)) (b.map λg=>((p::a).lookup g).getD 0))=_
    rw [m,if_neg (o_ _),SV]
    exact l (p::a) k c.2 d
theorem B5:∀(l c:List Int),l.Pairwise (·<·)->c.Pairwise (·<·)->(∀g∈l,g∈c)->l.Sublist c:=by
 intro l c d m h
 induction c generalizing l with
 |nil=>rw [zO.mpr λa q=>eg (h a q)];exact .slnil
 |cons x c n=>
  induction l using el with
  |nil=>exact N6 _
  |cons a l=>
  have i:=jb.mp d
  have f:=jb.mp m
  clear m;rcases eK.mp (h a (.head _)) with e |j
  .rw [e]
   refine zP _ (n l i.2 f.2 λg b=>?_)
   exact (eK.mp (h g (.tail _ b))).resolve_left λq=>xY g (by have:=i.1 g b;rwa [e,<-q] at this)
  .refine UI _ (n (a::l) d f.2 λg b=>?_)
   clear d;rcases eK.mp b with e |b
   .rw [e];exact j
   .exact (eK.mp (h g (.tail _ b))).resolve_left λq=>by
     have o:=f.1 a j
     have k:=i.1 g b
     rw [q] at k
     exact xY _ (zA o k)
theorem yH.nums (a:yH r (sortI a8) aM aD) (d:a8.Nodup) (c:DY a8):rQ 0 ([1,2,3,4,5].map λg=>(aD.lookup g).getD 0)=some aM.length:=by
 rw (config:={}) [H4 [1,2,3,4,5] aD 0 (by decide) ?_,a.num]
 rw [a.keys]
 refine B5 _ _ (MZ d) (by decide) λg b=>?_
 have:=c g (ip.mp b)
 simp only [eK,eg,or_false]
 exact Dm this
theorem NS:∀(c f:List Row),(∀r∈c,∀q∈f,jy r.1 q.1=false)->(c.Pairwise λa b=>jy b.1 a.1=false)->mQ f c=f++c:=by
 intro k
 induction k with
 |nil=>
  intro f _ _
  exact (eR f).symm
 |cons r c i=>
  intro f e j
  have h:=jb.mp j
  have l:¬f.any (λq=>jy r.1 q.1)=true:=by
   rw [mK,nL]
   exact λq d=>nM.mp (e r (.head _) q d)
  show mQ (if _ then _ else _) c=_
  rw [if_neg l,i (f++[r]) (λa g q d=>(eF.mp d).elim (e a (.tail _ g) q) λd=>by rw [dt.mp d];exact h.1 a g) h.2,eC];rfl
theorem P8 (h:Sr bj cM) (e:bj.1≠[]/\cM.1≠[]/\rP bj=rP cM):jy (xI cM).1 (xI bj).1=false:=by
 refine qW (gg e.1) λx u c=>?_
 refine qW (gg e.2.1) λy v b=>?_
 have i:x=y:=by have:=e.2.2;unfold rP at this;rw [c,b] at this;exact this
 refine nM.mpr λj=>?_
 have a:=gL.mp j
 unfold xI at a
 rw [c,b] at a
 have a:u<+:v:=a
 have g:=a.length_le
 rcases h with h |⟨f,d⟩
 .rw [c,b] at h
  exact jg _ (ei (Nat.lt_of_succ_lt_succ h) g)
 .rw [c,b] at f d
  have:=a.eq_of_length (Nat.succ.inj f)
  rw [i,this] at d
  exact oh _ d
theorem xR (d:B4 a7) (e:(aQ.map (·.1)).Nodup) (h:∀w l,(w,l)∈aQ↔(p::w,l)∈a7):(after a7 p).Perm aQ:=by
 refine (oe ?_ ?_).mpr λc=>?_
 .exact l_ (S:=λa b=>a≠b) (λ{a b} h q=>oh b.1 (by rw [q] at h;exact h)) (d.after [p]).CQ
 .exact l_ (S:=λa b=>a≠b) (λ{a b} h q=>h (congrArg _ q)) (gi.mp e)
 .exact (jU (bj:=c)).trans (h c.1 c.2).symm
theorem RZ (d:vm aU a) (f:Jl aU a7):∀p∈aU,(after a7 p.1).Perm (live p.2)/\(after a7 p.1).Pairwise λj b=>j.1<b.1:=λp h=>by
 have g:=f.P4 d
 have k:aU.lookup p.1=some p.2:=by
  have c:=d.keys
  refine qW (nc h) λm i e=>?_
  rw [e] at c⊢
  rw [b_,eP] at c
  refine gT.mpr (nB m i rfl (λq n=>?_))
  rw [bne_iff_ne]
  exact λo=>c.2.2 _ (fE n) p.1 (.head _) o.symm
 refine ⟨xR g (Jk p.2) λw l=>?_,(g.after [p.1]).CQ⟩
 rw [f.perm.mem_iff,Bv d.keys,k];rfl
theorem H5 (B:aQ.Perm a7) (f:B4 a7) (d:∀r∈a7,r.1≠[]) (G:aQ.Pairwise Sr):∀p∈tabOf aQ,(after a7 p.1).Perm (live p.2)/\(after a7 p.1).Pairwise λa b=>a.1<b.1:=λp L=>by
 have z:p.2=(aQ.filter λr=>decide (rP r=p.1)).map xI:=D4 aQ p L
 have c:∀r,r∈aQ↔r∈a7:=λr=>B.mem_iff
 have I:live p.2=p.2:=by
  rw [z]
  refine NS _ [] (λ_ _ _ h=>absurd h eg) (gi.mpr ?_)
  refine x9 (λ{a b} o A M=>?_) (G.filter _)
  refine iK (gB.mp o) λi m=>?_
  refine iK (gB.mp A) λg s=>?_
  exact P8 M (iz (d a ((c a).mp i)) (d b ((c b).mp g)) ((of_decide_eq_true m).trans (of_decide_eq_true s).symm))
 rw [I]
 have E:∀w l,(w,l)∈p.2↔(p.1::w,l)∈a7:=λw l=>by
  rw [z,ck]
  constructor
  .intro J;refine eS J λr O e=>?_
   refine iK (gB.mp O) λC K=>?_
   refine qW (gg (d r ((c r).mp C))) λx u n=>?_
   have t:x=p.1:=by have:=of_decide_eq_true K;unfold rP at this;rw [n] at this;exact this
   have N:u=w:=by have:=(k7 e).1;rw [n] at this;exact this
   have P:r.2=l:=(k7 e).2
   rw [<-t,<-N,<-n,<-P];exact (c r).mp C
  .intro h
   exact ej _ (gB.mpr ⟨(c _).mpr h,decide_eq_true rfl⟩) rfl
 refine ⟨xR f ?_ E,(f.after [p.1]).CQ⟩
 have Q:=(f.after [p.1]).CQ
 rw [z,et]
 refine yP ?_ λa o b A e=>?_
 .have H:a7.Nodup:=l_ (S:=λa b=>a≠b) (λ{a b} h q=>oh b.1 (by rw [q] at h;exact h)) f.CQ
  exact (B.symm.nodup H).filter _
 .refine iK (gB.mp o) λi m=>?_
  refine iK (gB.mp A) λg s=>?_
  refine qW (gg (d a ((c a).mp i))) λx u k=>?_
  refine qW (gg (d b ((c b).mp g))) λy v j=>?_
  have t:x=p.1:=by have:=of_decide_eq_true m;unfold rP at this;rw [k] at this;exact this
  have D:y=p.1:=by have:=of_decide_eq_true s;unfold rP at this;rw [j] at this;exact this
  have F:u=v:=by
   have:a.1.drop 1=b.1.drop 1:=e
   rw [k,j] at this;exact this
  exact f.uniq ((c a).mp i) ((c b).mp g) (by rw [k,j,t,D,F])
theorem KC {S:Int->List Row} (d:a8.Nodup) (c:cp.Nodup) (e:∀k,S k≠[]->k∈a8/\k∈cp):
 (((sortI a8).map λk=>(k,S k)).filter λp:Int×List Row=>!decide (p.2=[]))=((sortI cp).map λk=>(k,S k)).filter λp:Int×List Row=>!decide (p.2=[]):=by
 rw [uk,uk]
 refine congrArg _ (rz (λa b _ _ d c=>uZ d c) ((sG a8).filter _) ((sG cp).filter _) ((oe (((sortI_perm a8).symm.nodup d).filter _) (((sortI_perm cp).symm.nodup c).filter _)).mpr λg=>?_))
 rw [gB,gB,ip,ip]
 constructor
 .intro f;refine iK f λa b=>?_
  exact ⟨(e g (by have:(!decide (S g=[]))=true:=b;rw [fL,decide_eq_false_iff_not] at this;exact this)).2,b⟩
 .intro h;refine iK h λa b=>?_
  exact ⟨(e g (by have:(!decide (S g=[]))=true:=b;rw [fL,decide_eq_false_iff_not] at this;exact this)).1,b⟩
theorem Ug (i:vm aU a) (b:Jl aU a7) (h:after a7 p≠[]):p∈aU.map (·.1):=by
 refine j_ (i7 _ h) λr d=>?_
 refine eS (ot.mp (b.perm.mem_iff.mp (jU.mp d))) λg c f=>?_
 refine eS (ck.mp f) λq _ e=>?_
 exact (fq (k7 e).1).1▸fE c
theorem KD (a:aQ.Perm a7) (h:after a7 p≠[]):p∈(tabOf aQ).map (·.1):=by
 refine j_ (i7 _ h) λr b=>?_
 exact (sL (k:=rP) (x:=xI) aQ).2 p|>.mpr (ej _ (a.mem_iff.mpr (jU.mp b)) rfl)
theorem NT (b:aQ.Perm a7) (m:a7.length<=5) (f:∀r∈a7,r.1≠[]/\DY r.1/\r.1.length<=4/\10<=r.2):vm (tabOf aQ) 5 where
 keys:=(sL aQ).1
 gl g a:=by
  refine iQ g (((sL (k:=rP) (x:=xI) aQ).2 g).mp a) λr d=>?_
  refine mW (f r (b.mem_iff.mp d)) λh c _=>?_
  refine qW (gg h) λs u e=>?_
  exact c _ (by unfold rP;rw [e];exact .head _)
 rows p j q i:=by
  have o:p.2=_:=D4 (k:=rP) (x:=xI) aQ p j
  rw [o] at i
  refine iQ q (ck.mp i) λr d=>?_
  refine wV (f r (b.mem_iff.mp (gB.mp d).1)) λh c l n=>?_
  exact ⟨λg a=>c g (vG a),by show (r.1.drop 1).length<=3;rw [ey];exact j8 l,n⟩
 KX:=by
  have:((tabOf aQ).map λp=>p.2.length).sum=aQ.length:=I6 aQ
  rw [this,b.length_eq];exact m
 ne:=Ni aQ
theorem KG (m:B4 a7):∃V:List Row,V.Perm a7/\V.Pairwise Sr:=by
 let i:Row->Row->Bool:=λa b=>decide (b.1.length<a.1.length\/(a.1.length=b.1.length/\a.1<=b.1))
 have e:=wH a7 i
 refine ej _ e ?_
 have d:=tJ (le:=i) (λa b c e d=>?_) (λa b=>?_) a7
 .have l:(a7.mergeSort i).Pairwise λa b=>a.1≠b.1:=gi.mp ((e.map λr:Row=>r.1).symm.nodup (Ej m.CQ))
  refine (uY.mpr ⟨d,l⟩).imp λ{a b} h=>?_
  rcases of_decide_eq_true h.1 with g |⟨g,k⟩
  .exact .inl g
  .exact .inr ⟨g,gh λj=>h.2 (N8 k (SW.mp j))⟩
 .refine decide_eq_true ?_
  rcases of_decide_eq_true e with e |⟨e,n⟩
  .rcases of_decide_eq_true d with d |⟨d,_⟩
   .exact .inl (gG d e)
   .exact .inl (d▸e)
  .rcases of_decide_eq_true d with d |⟨d,o⟩
   .exact .inl (e▸d)
   .exact .inr ⟨e.trans d,Q0 n o⟩
 .rw [j1,decide_eq_true_iff,decide_eq_true_iff]
  rcases zx a.1.length b.1.length with h |h |h
  .exact .inr (.inl h)
  .rcases Q1 a.1 b.1 with f |f
   .exact .inl (.inr ⟨h,f⟩)
   .exact .inr (.inr ⟨h.symm,f⟩)
  .exact .inl (.inl h)
noncomputable def wC (o:AO):Prop:=∀cl k v,o≠.list [.ref cl,.int k,.int v]
noncomputable def BF (st st':AS):Prop:=∀x o,wC o->st x=some o->st' x=some o
theorem R0 (h:eD b q):BF b q:=λx o _ e=>h x o e
theorem Gv (h:xH b a d o) (g:BY b q a):BF b q:=λx i f e=>by
 by_cases c:x=a
 .obtain ⟨k,v,cs,h⟩:=h
  rw [c,h.obj] at e
  exact absurd (d5 e).symm (f _ _ _)
 .exact (g x c).trans e
theorem El (a:List (AV×AV)):wC (.dict a):=λ_ _ _ h=>nomatch h
theorem z5 (c b:Nat) (a:List (Nat×AV)):wC (.inst c b a):=λ_ _ _ h=>nomatch h
theorem z6 (a:List Nat):wC (.list (a.map .ref)):=λb k v h=>by
 have h:=AO.list.inj h
 match a,h with
 |[],h=>contradiction
 |[_],h=>(injection h;contradiction)
 |_::_::_,h=>have:=(fq (fq h).2).1;contradiction
theorem z7 (a:List Int):wC (.list (a.map .int)):=λb k v h=>by
 have h:=AO.list.inj h
 match a,h with
 |[],h=>contradiction
 |_::_,h=>have:=(fq h).1;contradiction
theorem P9 (f:h->List AV) (b:List h):wC (.list (b.map λx=>.tup (f x))):=λc k v a=>by
 have a:=AO.list.inj a
 match b,a with
 |[],a=>contradiction
 |_::_,a=>have:=(fq a).1;contradiction
theorem Jn (a:List Row):wC (.list (a.map ie)):=P9 (λr:Row=>[tI r.1,.int r.2]) a
theorem ke.BF (c:BF b q) (h:ke b C aP):ke q C aP:=by
 induction h with
 |nil=>exact .nil
 |cons h _ a=>exact .cons (c _ _ (El _) h) a
theorem mY.BF (h:mY b a r) (c:BF b q):mY q a r:=let ⟨f,l,e,d,h⟩:=h;⟨f,l,e,d,c _ _ (z5 _ _ _) h.obj,c _ _ (z6 _) h.steps,c _ _ (z7 _) h.ends,h.AP.BF c⟩
theorem kj.BF (h:kj b a aK) (c:BF b q):kj q a aK:=⟨c _ _ (El _) h.dict,λe d=>c _ _ (Jn _) (h.ls e d)⟩
theorem F7.BF (h:F7 b a r aD aM) (e:BF b q):F7 q a r aD aM:=by
 obtain ⟨l,g,m,k,n,h⟩:=h
 obtain ⟨f,d,p,j⟩:=h.cls
 refine ⟨l,g,m,k,n,e _ _ (z5 _ _ _) h.obj,⟨f,d,e _ _ (z5 _ _ _) p,e _ _ (El _) j⟩,e _ _ (z6 _) h.rows,h.len,λi s o=>e _ _ ?_ (h.row i s o),e _ _ (z7 _) h.ends,h.col⟩
 have:=z7 (aM.map λc=>c.getD i (-1))
 rwa [et] at this
theorem wD (f:∀x∈j,Plain x) (q:Al i e b g λv s=>∃c,v= .ref c/\s c=some (.list j)) (p:∀s,eD b s->Al i e s D λv l=>∃c,v= .ref c/\l c=some (.list j)):At i e b (.cmp g .ne D) false:=
 wo (AW q λv r m a=>by
  refine jj v a λc n=>?_
  refine qo (p r m) λv t o a=>?_
  refine jj v a λd k=>?_
  exact λQ h=>.ne (.list (o _ _ n) k f f true ⟨λ_=>rfl,λ_=>rfl⟩) (h _ rfl))
theorem NU (c:Plain l) (h:Al i e b g λv _=>v=l) (f:∀s,eD b s->Al i e s D λv _=>v=l):At i e b (.cmp g .ne D) false:=
 wo (AW h λv m d a=>by
  subst a
  refine qo (f m d) λv n k a=>?_
  clear d h f k;subst a
  exact λQ j=>.ne (.plain c c true ⟨λ_=>rfl,λ_=>rfl⟩) (j _ rfl))
theorem sQ (h:gO b j l q):∃c,l= .ref c/\q c=some (.list j):=eS h λc e h=>(ej c e h.at_)
theorem uX (R:List Row):∀x∈R.map ie,Plain x:=λx a=>by
 refine iQ x (ck.mp a) λr _=>?_;exact CX 4 r
theorem H6 (K:List (Int×List Row)):Plain (Nb K):=.tup _ _ λx b=>by
 refine iQ x (ck.mp b) λp _=>?_
 exact .tup _ _ λy a=>by
  cases a with
  |head=>exact .int _ _
  |tail _ a=>
   cases a with
   |head=>exact tF 1 p.2
   |tail _ a=>exact (eg a).elim
theorem NV (h:VE PG i g e b λv b=>VE PG i D e b λl b=>VE PG i aL e b λh b=>G8 b n v l h):VE PG i (.tY g D aL) e b n:=h
theorem P_ (h:VE PG i g e b λv b=>∀c,b.free c->n (.ref c) (b.set c (.list [v,l,af]))):VE PG i (.lst (.cons g (.cons (.cst l) (.cons (.cst af) .nil)))) e b n:=h
theorem NW (h:∀p d s,xH s p d 0->jo PG (eE PG (a+1)) ah (e.set 1 (some (.ref p))) s ag) (t:e[0]? =some (some (.BM a8))) (D:a8.length<=63):
 jo PG (eE PG (a+1)) (.cons (.asg 1 (.lst (.cons (.bin .add (.comp [none,none] (.call (.cst (.bi 9)) (.cons (.var 1) .nil)) [1] (.tY (.var 0) (.cst .none) (.cst (.int 40))) .nil .nil) (.lst (.cons (.cst (.int 26)) (.cons (.cst (.int 17)) .nil)))) (.cons (.cst (.int 0)) (.cons (.cst (.int 0)) .nil))))) ah) e b ag:=by
 have x:Al (eE PG (a+1)) e b (.tY (.var 0) (.cst .none) (.cst (.int 40))) (gO b ((a8.take 40).map .int)):=λQ f=>by
  refine NV (a5 t _ (d3 _ (d3 _ (.BM (HA (a:=40)) ?_))))
  rw [<-qh]
  exact λc l=>f _ _ (mV l.1) (ej c rfl ((fN l).own (ed _)))
 have m:(a8.take 40).length<=40:=by rw [fS];exact g8 _ _
 refine je (P_ (yG (xC AV.int (a_ m (by unfold fF;decide)) x (λi _ y _=>(ej [none,some (.int i)] rfl (jG (xw (l:=.bi 9) (j:=[.int i]) (af:=.int i) d3 (iJ (a5 rfl)) λQ f=>jI (a:=a) (.mk (.mk f))) rfl))) _ λv y B z=>?_)))
 refine jj v z λc1 u=>?_
 refine sh (iL d3 d3) λc2 C q=>add_lists (q.le _ _ u.at_) q.at_ (by rw [bb];exact a_ (gA m _) (by unfold fF;decide)) λd A j=>?_
 intro p r
 have g:=fN (ay:=.list [.ref d,.int 0,.int 0]) r
 refine h p d _ ⟨0,0,a8.take 40++[26,17],g.at_,?_,g.ne j.at_,by rw [bh];exact fB _,eJ _⟩
 rw [g.le _ _ j.at_,b_];rfl
structure vF (s:AS) (p cl N c2 d1 d2 c3 t1 t2 t4 c5 t6 tb:Nat) (E1 E2:Ent) (A1 A2 B:Au) (W:List Row) (ss:List (Int×Nat)) (C:List g_):Prop where
 R1:xH s p cl N
 l2:s c2=some (.list ([d1,d2].map .ref))
 NX:kj s d1 E1
 Uh:kj s d2 E2
 l3:s c3=some (.list ([t1,t2].map .ref))
 UT:mY s t1 A1
 Wf:mY s t2 A2
 HG:∃dx,s t4=some (.inst 5 dx [(54,.ref d1)])
 wl:s c5=some (.list (W.map ie))
 lean:mY s t6 B
 st:F7 s tb B ss C
variable {cu cw cy cz cP:Nat} {bW:Ent} {cA:Au}
theorem vF.to (h:vF b a d o ak aI bc bJ bU cu cw cy cz cP aK bW r bV cA a7 aD aM) (c:BF b q) (g:xH q a d I):vF q a d I ak aI bc bJ bU cu cw cy cz cP aK bW r bV cA a7 aD aM:=
 ⟨g,c _ _ (z6 _) h.l2,h.NX.BF c,h.Uh.BF c,c _ _ (z6 _) h.l3,h.UT.BF c,h.Wf.BF c,j_ h.HG λf e=>⟨f,c _ _ (z5 _ _ _) e⟩,c _ _ (Jn _) h.wl,h.lean.BF c,h.st.BF c⟩
theorem vF.le (h:vF b a d o I ak aI bc bJ bU cu cw cy cz aK bW r bV cA a7 aD aM) (c:eD b q):vF q a d o I ak aI bc bJ bU cu cw cy cz aK bW r bV cA a7 aD aM:=h.to (R0 c) (h.R1.keep c)
theorem vF.same (h:vF b a d o ak aI bc bJ bU cu cw cy cz cP aK bW r bV cA a7 aD aM) (c:BY b q a) (e:xH q a d I):vF q a d I ak aI bc bJ bU cu cw cy cz cP aK bW r bV cA a7 aD aM:=h.to (Gv h.R1 c) e
structure Ui (E1 E2:Ent) (A1 A2 B:Au) (W:List Row) (ss:List (Int×Nat)) (C:List g_):Prop where
 t1:vm (strip E1) 5
 t2:vm (strip E2) 5
 w1:Jl (strip E1) W
 g1:∃L,tS A1 L/\L 0=W
 g2:∃W2 L,tS A2 L/\L 0=W2/\Jl (strip E2) W2
 gb:∃L,tS B L/\L 0=W
theorem KH (m:Ev i e b g (.ref a)) (l:b a=some (.list j)) (k:∀x∈j,Plain x):At i e b (.cmp g .ne (.lst .nil)) (!decide (j=[])):=
 wo λQ f=>m _ λc d=>.ne (.list ((fN d).le _ _ l) (fN d).at_ k (λ_ h=>absurd h eg) _ decide_eq_true_iff) (f _ _ (mV d.1) rfl)
theorem NY (h:VE PG i g e b λv b=>VE PG i D e b λk b=>zC b n v k):VE PG i (.sub g D) e b n:=h
theorem Gw (l:Ev i e b g (.ref a)) (k:b a=some (.list j)):Al i e b (.tY g (.cst .none) (.cst (.int d))) (gO b (j.take d)):=λQ h=>NV (l _ (d3 _ (d3 _ (.list k HA λc f=>h _ _ (mV f.1) (ej c rfl ((fN f).own (ed _)))))))
theorem Gx (R:vF b d o I ak aI bc bJ bU cu cw cy cz cP aK bW r bV cA a7 aD aM) (C:I<10000) (km:∀q∈a7,q.1.length<=4) (ky:a7.length<=5) {kC g:Option AV} (h:∀O (L:List Int) E g,vF E d o (I+12) ak aI bc bJ bU cu cw cy cz cP aK bW r bV cA a7 aD aM->E O=some (.list (L.map .int))->L.length<=100->jo PG (eE PG (a+6)) ah [some l,some (.ref d),some (.ref ak),some (.ref bJ),some (.ref cw),some (.ref cy),some (.ref cz),some (.ref cP),some af,some b7,some (.ref O),g] E ag):
 jo PG (eE PG (a+6)) (.cons (.asg 10 (.comp [none,none,some 1] (.bin .add (.cst (.int 1)) (.call (.cst (.fn 72)) (.cons (.var 2) (.cons (.cst (.int 5)) .nil)))) [1] (.call (.cst (.bi 4)) (.cons (.call (.cst (.fn 72)) (.cons (.var 1) (.cons (.cst (.int 8)) .nil))) .nil)) .nil .nil)) (.cons (.iff (.cmp (.var 5) .ne (.lst .nil)) (.cons (.asg 10 (.bin .add (.bin .add (.var 10) (.call (.cst (.bi 10)) (.cons (.sub (.sub (.var 5) (.call (.cst (.fn 72)) (.cons (.var 1) (.cons (.call (.cst (.bi 0)) (.cons (.var 5) .nil)) .nil)))) (.cst (.int 0))) .nil))) (.tY (.var 10) (.cst .none) (.cst (.int 1))))) .nil) .nil) ah))
  [some l,some (.ref d),some (.ref ak),some (.ref bJ),some (.ref cw),some (.ref cy),some (.ref cz),some (.ref cP),some af,some b7,kC,g] b ag:=by
 refine je (zX (jJ (g7 d3 (iL (a5 rfl) d3) (oZ (a:=a+2) (ak:=8) R.R1 (gG C (by decide)) (by decide) (by decide) λkH s1 f H X=>tA (a:=a+5) (eA (gG f (by decide))) ?_))))
 have kz:=R.same X H
 refine zk H (Xd C f) (λkx=>(ej [none,some kx,some (.ref d)] rfl (λkI Q N' kn Z kB=>wq d3 (g7 d3 (iL (a5 rfl) d3) (oZ (a:=a+2) (ak:=5) kn Z (by decide) (by decide) λp s l af c=>.int rfl (kB p s l af c)))))) λw s2 s3 Tj t h5 kq kG B=>?_
 have A:vF s3 d o (I+9) ak aI bc bJ bU cu cw cy cz cP aK bW r bV cA a7 aD aM:=(kz.same kG (kq.mono (Xe f))).le B.le
 refine pG (KH (a5 rfl) A.wl (uX a7)) λV j=>⟨λP=>?_,λ_=>s_end (h Tj w V _ ((A.le j).to (λ_ _ _ e=>e) ((A.le j).R1.mono (by exact d7 (by decide) _))) (j _ _ B.at_) (by exact n1 t (a_ (eA f) (by decide))))⟩
 have y:=A.le j
 have kD:0<a7.length:=by
  rw [fL,decide_eq_false_iff_not,jt] at P
  exact oH.mpr P
 have W:=j _ _ B.at_
 have kF:Ev (eE PG (a+6)) [some l,some (.ref d),some (.ref ak),some (.ref bJ),some (.ref cw),some (.ref cy),some (.ref cz),some (.ref cP),some af,some b7,some (.ref Tj),g] V (.call (.cst (.bi 0)) (.cons (.var 5) .nil)) (.int a7.length):=by
  have:=jd (a:=a+5) (e:=[some l,some (.ref d),some (.ref ak),some (.ref bJ),some (.ref cw),some (.ref cy),some (.ref cz),some (.ref cP),some af,some b7,some (.ref Tj),g]) (a5 (a:=5) rfl) (f9 y.wl)
  rwa [bb] at this
 refine je (yG (yG (a5 rfl _ (jJ (NY (NY (a5 rfl _ (g7 d3 (iL (a5 rfl) kF) (oZ (a:=a+2) (ak:=a7.length) y.R1 (by exact ei (qD C 9) (by decide)) kD (by exact c_ ky (by decide)) λp s5 T Y J=>?_)))))))))
 have G:=y.same J Y
 have kl:(a7.map ie)[p]? =some (ie a7[p]):=by rw [ee,dj T];rfl
 have F:=km _ (fO T)
 generalize a7[p]=q at*
 have S:=Gv y.R1 J _ _ (z7 w) W
 refine CI G.wl kl (d3 _ (FA (a:=0) (l:=tI q.1) rfl (F_ (a:=a+5) λc6 s6 u=>add_lists (u.le _ _ S) u.at_ ?_ λc7 s7 z=>?_)))
 .rw [bb,bb];unfold fF;exact a_ (fP (n1 t (eA f)) F) (by decide)
 rw [<-b_] at z
 have ku:=z.le _ _ (u.le _ _ S)
 refine Gw (d:=1) (a5 rfl) ku _ λv s8 N hv=>?_
 refine jj v hv λc8 o8=>?_
 have U:=o8.at_
 rw [<-qh] at U
 refine add_lists (N _ _ z.at_) U ?_ λc9 K D=>?_
 .rw [bb,bb,bh,fS];unfold fF;exact a_ (fP (fP (n1 t (eA f)) F) (g8 _ _)) (by decide)
 rw [<-b_] at D
 have M:eD s5 K:=b4 u.le (b4 z.le (b4 N D.le))
 refine h c9 _ K _ ((G.le M).to (λ_ _ _ e=>e) ((G.le M).R1.mono (by exact d7 (by decide:10<=12) I))) D.at_ ?_
 rw [bh,bh,fS];exact a_ (fP (fP (n1 t (eA f)) F) (g8 _ _)) (by decide)
theorem KI (m:Al i e b g bw) (h:∀v s,eD b s->bw v s->Ev i e s D af/\Cl i l [v,af] s n):Al i e b (.call (.cst l) (.cons g (.cons D .nil))) n:=λQ f=>m _ λv s a c=>(h v s a c).1 _ ((h v s a c).2 Q λu j k d=>f u j (b4 a k) d)
theorem sR (a:List Int):∀x∈a.map AV.int,Plain x:=wk a
theorem KJ (M:vF b d o I ak aI bc bJ bU cu cw cy cz cP aK bW r bV cA a7 aD aM) (g:Ui aK bW r bV cA a7 aD aM) {J:Option AV} {W O:Nat} (R:b W=some (.list (a8.map .int))) (km:a8.length<=100) (h:∀V kB J,vF V d o I ak aI bc bJ bU cu cw cy cz cP aK bW r bV cA a7 aD aM->ag .next [some l,some (.ref d),some (.ref ak),some (.ref bJ),some (.ref cw),some (.ref cy),some (.ref cz),some (.ref cP),some af,some (.int O),kB,J] V):
 jo PG (eE PG (a+11)) (.cons (.asg 11 (.call (.cst (.fn 75)) (.cons (.tY (.var 2) (.cst .none) (.cst (.int 1))) (.cons (.var 10) .nil))))
  (.cons (.iff (.or (.cmp (.call (.cst (.fn 53)) (.cons (.sub (.var 3) (.cst (.int 0))) (.cons (.var 10) .nil))) .ne (.var 11)) (.or (.cmp (.call (.cst (.fn 65)) (.cons (.var 7) (.cons (.var 10) .nil))) .ne (.var 11)) (.cmp (.call (.cst (.fn 77)) (.cons (.var 6) (.cons (.var 5) (.cons (.var 10) .nil)))) .ne (.var 11)))) (.cons (.ret (.cst (.bool false))) .nil) .nil)
  (.cons (.iff (.and (.cmp (.var 9) .eq (.cst (.int 0))) (.cmp (.call (.cst (.fn 76)) (.cons (.var 4) (.cons (.var 10) .nil))) .ne (.var 11))) (.cons (.ret (.cst (.bool false))) .nil) .nil)
  (.cons (.iff (.cmp (.call (.cst (.fn 52)) (.cons (.var 3) (.cons (.var 10) .nil))) .ne (.call (.cst (.fn 75)) (.cons (.var 2) (.cons (.var 10) .nil)))) (.cons (.ret (.cst (.bool false))) .nil) .nil) .nil))))
  [some l,some (.ref d),some (.ref ak),some (.ref bJ),some (.ref cw),some (.ref cy),some (.ref cz),some (.ref cP),some af,some (.int O),some (.ref W),J] b ag:=by
 refine eS g.g1 λL1 A U=>?_
 refine jS g.g2 λW2 L2 Z kD w2=>?_
 refine eS g.gb λLB z kl=>?_
 have u:a8.length<=10000:=a_ km (by decide)
 have ky:a7.length<=5:=by rw [g.w1.perm.length_eq];exact a_ (rh _) g.t1.KX
 have e1:iF (fY [r]) a8.length a8=iF (i4 [strip aK]) a8.length a8:=rn (λs y=>(Jm A U g.w1 g.t1 y).trans (uW _ _).symm) _ _
 have S:iF (fY [cA]) a8.length a8=iF (i4 [strip aK]) a8.length a8:=rn (λs y=>(Jm z kl g.w1 g.t1 y).trans (uW _ _).symm) _ _
 have ef:iF (o7 (strip aK)) a8.length a8=iF (i4 [strip aK]) a8.length a8:=rn (λs _=>(uW _ _).symm) _ _
 have e2:iF (fY [r,bV]) a8.length a8=iF (i4 [strip aK,strip bW]) a8.length a8:=rn (λs y=>NQ A U g.w1 g.t1 Z kD w2 g.t2 y) _ _
 have kC:iF (i4 ([((aI,aK):Nat×Ent)].map λd=>strip d.2)) a8.length a8=iF (i4 [strip aK]) a8.length a8:=rfl
 have kq:iF (i4 ([((aI,aK):Nat×Ent),(bc,bW)].map λd=>strip d.2)) a8.length a8=iF (i4 [strip aK,strip bW]) a8.length a8:=rfl
 refine yy (KI (Gw (d:=1) (a5 rfl) M.l2) (n:=λv s=>∃c,v= .ref c/\eD b s/\s c=some (.list ((iF (i4 [strip aK]) a8.length a8).map .int))) λv Y p f=>⟨a5 rfl,?_⟩) λv Y p f=>?_
 .refine jj v f λc ku=>?_
  have h1:Y c=some (.list ([((aI,aK):Nat×Ent)].map λd=>.ref d.1)):=ku.at_
  exact uO (xN (a:=a+7) h1 (λq x=>by rw [dt.mp x];exact M.NX.le p) (p _ _ R) u) λv s2 j f=>by
   refine jj v f λc' o'=>?_
   exact gr c' rfl (b4 p j) (kC▸o'.at_)
 refine gj f λB kn _ D=>?_;subst kn
 have w:=M.le p
 have G:=p _ _ R
 generalize iF (i4 [strip aK]) a8.length a8=F at*
 refine pG (aw:=false||(false||false)) (FG (wD (sR F) (λQ H=>g7 d3 (iL (ft (d:=0) (a5 rfl) w.l3 d3 rfl) (a5 rfl)) (BX (by exact df 7 (a+4)) w.UT A.ok G u λc L=>H _ _ (mV L.1) (ej c rfl (by rw [e1];exact gX _ _ _)))) λs i=>jG (a5 rfl) (ej B rfl (i _ _ D))) λ_ s2 j=>
  FG (wD (sR F) (gy d3 (iL (a5 rfl) (a5 rfl)) (uO (zH (a:=a+5) (w.le j).st z.ok (j _ _ G) u) λv s3 _ f=>by rw [S] at f;exact sQ f)) λs i=>jG (a5 rfl) (ej B rfl (i _ _ (j _ _ D)))) λ_ s3 E=>
   wD (sR F) (gy d3 (vD (a5 rfl) (a5 rfl) (a5 rfl)) (uO (D6 (a:=a+1) (w.le (b4 j E)).lean z.ok (w.le (b4 j E)).wl ky (b4 j E _ _ G) (c_ km (by decide)) λkz e _=>kl▸NR z kz) λv s4 _ f=>by rw [P6,S] at f;exact sQ f)) λs i=>jG (a5 rfl) (ej B rfl (i _ _ (b4 j E _ _ D)))) λs4 K=>⟨(by intros;contradiction),λ_=>s_end ?_⟩
 have N:=w.le K
 have X:=K _ _ G
 refine j_ N.HG λkF kx=>?_
 refine pG (aw:=decide ((O:Int)=0)&&false) (DU (pw (f' (fV (a5 rfl) d3 (eq_int rfl)))) λ_ s5 C=>wD (sR F) (gy d3 (iL (a5 rfl) (a5 rfl)) (uO (yM (a:=a) (C _ _ kx) (N.NX.le C) g.t1 (C _ _ X) u) λv s6 _ f=>by rw [ef] at f;exact sQ f)) λs i=>jG (a5 rfl) (ej B rfl (i _ _ (C _ _ (K _ _ D))))) λs6 l6=>⟨λht=>(by rw [Ql] at ht;contradiction),λ_=>s_end ?_⟩
 have m:=N.le l6
 have T:=l6 _ _ X
 refine pG (aw:=false) (wD (sR (iF (i4 [strip aK,strip bW]) a8.length a8)) (λQ H=>g7 d3 (iL (a5 rfl) (a5 rfl)) (uN (C:=[bU,cu]) (dh:=[r,bV]) (by exact df 6 (a+5)) m.l3 (.cons m.UT A.ok (.cons m.Wf Z.ok .nil)) T u λc L=>H _ _ (mV L.1) (ej c rfl (by rw [e2];exact gX _ _ _)))) λs i=>gy d3 (iL (a5 rfl) (a5 rfl)) (uO (xN (a:=a+7) (B:=[(aI,aK),(bc,bW)]) (i _ _ m.l2) (λq x=>?_) (i _ _ T) u) λv s8 _ f=>by rw [kq] at f;exact sQ f)) λs7 l7=>⟨(by intros;contradiction),λ_=>s_end ?_⟩
 .rcases eK.mp x with rfl |x
  .exact m.NX.le i
  .rw [dt.mp x];exact m.Uh.le i
 .exact h s7 _ _ (m.le l7)
theorem Qa (h:VE PG i g e b λd b=>VE PG i D e b λa b=>∀c,b.free c->n (.ref c) (b.set c (.list [d,a]))):VE PG i (.lst (.cons g (.cons D .nil))) e b n:=h
theorem FN.BF (h:FN b q a) (c:xH b a d o):BF b q:=λx f g e=>h x f (λi=>by
 obtain ⟨k,v,cs,c⟩:=c
 rw [i,c.obj] at e
 exact g _ _ _ (d5 e).symm) e
theorem Gy (r:xH b d o 0) (m:e[1]? =some (some (.ref d))) (h:∀c2 f g j k s,xH s d o 72->kj s f j->kj s g k->vm (strip j) 5->vm (strip k) 5->s c2=some (.list ([f,g].map .ref))->jo PG (eE PG (a+7)) ah (e.set 2 (some (.ref c2))) s ag):
 jo PG (eE PG (a+7)) (.cons (.asg 2 (.lst (.cons (.call (.cst (.fn 73)) (.cons (.var 1) .nil)) (.cons (.call (.cst (.fn 73)) (.cons (.var 1) .nil)) .nil)))) ah) e b ag:=by
 refine je (Qa (g7 d3 (iJ (a5 m)) (vQ (a:=a) r (by decide) λf j A y l w u=>g7 d3 (iJ (a5 m)) (vQ (a:=a) l (by decide) λg k z q t p x c v=>?_))))
 have i:=fN (ay:=.list [.ref f,.ref g]) v
 exact h c f g j k _ (t.keep i.le) ((w.tab.BF (q.BF l)).le i.le) (p.tab.le i.le) u x i.at_
theorem H7 (C:e[2]? =some (some (.ref d))) (y:b d=some (.list ([o,I].map .ref))) (Z:kj b o aK) (R:kj b I bW) (S:vm (strip aK) 5) (U:vm (strip bW) 5) (h:∀B m p s,eD b s->s B=some (.list ([m,p].map .ref))->mY s m (jl A8 (nx (strip aK)))->mY s p (jl A8 (nx (strip bW)))->jo PG (eE PG (a+6)) ah (e.set 3 (some (.ref B))) s ag):
 jo PG (eE PG (a+6)) (.cons (.asg 3 (.comp [none,none] (.call (.cst (.fn 47)) (.cons (.call (.cst (.cls 5)) (.cons (.var 1) .nil)) .nil)) [1] (.var 2) .nil .nil)) ah) e b ag:=by
 refine je (DV (a5 C) (tu (.list d _) [(o,aK),(I,bW)] (λq=>.ref q.1) (λQ=>gI y) (λD w s=>eD b s/\∃f:List Nat,w=f.map .ref/\f.length=D.length/\∀(i:Nat) t q,f[i]? =some t->D[i]? =some q->mY s t (jl A8 (nx (strip q.2)))) ⟨(ed _),[],rfl,rfl,(by intros;contradiction)⟩ (λ_ _ _ h=>h.1 _ _ y) ?_ ?_))
 .intro D q r' w s z X K J;refine G7 w X λr f g l=>?_
  have M:kj b q.1 q.2/\vm (strip q.2) 5:=by
   have:=mid z
   clear C y h z J r g l;rcases eK.mp this with rfl |this
   .exact ⟨Z,S⟩
   .rw [dt.mp this];exact ⟨R,U⟩
  refine ej [none,some (.ref q.1)] rfl (Eb (jJ (g7 d3 (iJ (a5 rfl)) (tq (df 4 _) λkm T W _ _=>?_))))
  have x:=fN (ay:=.inst 5 T [(54,.ref q.1)]) W
  refine D3 (a:=a) (n:=λv L=>∃t,v= .ref t/\mY L t (jl A8 (nx (strip q.2)))) x.at_ ((M.1.le r).le x.le) M.2 (λt L _ A=>(ej t rfl A)) _ λv G N hv=>?_
  refine jj v hv λt A=>?_
  have E:=b4 x.le N
  have kl:D.length<=2:=by
   have:=congrArg fj z
   rw [bh] at this
   exact a_ (eh _ _) (gv this.symm)
  refine ⟨by rw [bb,g];exact rC (a_ kl (by decide)),J _ _ ⟨(b4 r E),(f++[t]),(by rw [b_];rfl),(by rw [bh,bh,g];rfl),(λi Y V j k=>?_)⟩⟩
  rcases j' i f.length with F |H
  .rw [eN F] at j
   rw [eN (g▸F)] at k
   exact (l i Y V j k).le E
  .rw [fk H] at j
   rw [fk (g▸H),<-g] at k
   have h0:i -f.length=0:=iZ.mp (gz j)
   rw [h0] at j k
   (injection j with j;subst j);(injection k with k;subst k)
   exact A
 .intro w s G c O u;obtain ⟨r,f,rfl,g,l⟩:=O
  match f,g with
  |[m,p],_=>exact h c m p G (b4 r u.le) u.at_ ((l 0 m _ rfl rfl).le u.le) ((l 1 p _ rfl rfl).le u.le)
theorem NZ (k:Al i e b g n) (h:∀v c,eD b c->n v c->∃a f d,v= .ref a/\c a=some (.inst 5 f [(54,.ref d)])/\i (.fn 35) [.ref a] c bw):VE PG i (.fM g 5 .nil) e b bw:=k _ λv c l p=>by
 refine wW (h v c l p) λa f d j o m=>?_;subst j
 exact .inst o rfl rfl rfl m
noncomputable def Gz (W:List Row) (K:List Int):AV:=Nb (((sortI K).map λk=>(k,after W k)).filter λp:Int×List Row=>!decide (p.2=[]))
theorem Qb {b:Table} (d:vm aU a) (e:Jl aU a7) (f:aQ.Perm a7) (g:b=tabOf aQ):Gz a7 (aU.map (·.1))=Gz a7 (b.map (·.1)):=by
 subst g
 unfold Gz
 rw (config:={}) [KC (a8:=aU.map λp=>p.1) (cp:=(tabOf aQ).map λp=>p.1) (S:=after a7) d.keys (sL aQ).1 λk c=>⟨Ug d e c,KD f c⟩]
theorem Jo (k:b d=some (.inst 5 I [(54,.ref o)])) (h:kj b o aK) (j:vm (strip aK) 5) (i:∀p∈strip aK,(after a7 p.1).Perm (live p.2)/\(after a7 p.1).Pairwise λc f=>c.1<f.1):Cl (eE PG (a+6)) (.fn 35) [.ref d] b λv _=>v=Gz a7 ((strip aK).map (·.1)):=
 Kh (a:=a) k h j (after a7) (λe g=>i (e.1,e.2.2) (ck.mpr (ej e g rfl))) λ_ _=>by rw [rf];rfl
noncomputable def Bw (kvs:List (AV×AV)):List (AV×AV):=kvs.foldl (λd p=>dictPut d p.1 p.2) []
theorem KL (a:List (AV×AV)) (p:AV×AV):Bw (a++[p])=dictPut (Bw a) p.1 p.2:=by unfold Bw;rw [iS];rfl
theorem R2 (h:l∈aC.map (·.1)):(dictPut aC l af).map (·.1)=aC.map (·.1)/\∀p∈dictPut aC l af,p∈aC\/p=(l,af):=by
 have e:dictPut aC l af=_:=if_pos h
 rw [e]
 constructor
 .rw [et]
  refine fm λp _=>?_
  by_cases a:p.1=l
  .exact (congrArg yX (if_pos a)).trans a.symm
  .exact congrArg yX (if_neg a)
 .intro p a
  refine iQ p (ck.mp a) λq c=>?_
  by_cases b:q.1=l
  .exact .inr (if_pos b)
  .exact .inl (by rw [if_neg b];exact c)
theorem Qc (kvs:List (AV×AV)):(∀p∈Bw kvs,p∈kvs)/\((Bw kvs).map (·.1)).Nodup/\∀k,k∈(Bw kvs).map (·.1)↔k∈kvs.map (·.1):=by
 induction kvs using snoc_ind with
 |h0=>exact iz (by intros;contradiction) eI (λ_=>Iff.rfl)
 |h1 kvs p ih=>
  rw [KL]
  by_cases h:p.1∈(Bw kvs).map (·.1)
  .obtain ⟨h1,h2⟩:=R2 (af:=p.2) h
   rw [h1]
   refine iz (λq hq=>?_) ih.2.1 (λk=>?_)
   .rcases h2 q hq with hq |hq
    .exact fR _ (ih.1 q hq)
    .exact fT _ (dt.mpr hq)
   .rw [ih.2.2,b_,eF]
    exact ⟨.inl,λq=>q.elim id λq=>by rw [dt.mp q];exact (ih.2.2 _).mp h⟩
  .rw [jZ h,b_]
   refine iz (λq hq=>?_) ?_ (λk=>?_)
   .rcases eF.mp hq with hq |hq
    .exact fR _ (ih.1 q hq)
    .exact fT _ hq
   .exact eP.mpr ⟨ih.2.1,eT.mpr ⟨eg,eI⟩,λa ha b hb q=>h (by
     have e:b=p.1:=dt.mp hb
     rw [<-e,<-q];exact ha)⟩
   .rw [eF,ih.2.2,b_,eF]
noncomputable def C5 (W:List Row) (l:Int):List AV:=(W.filter λw=>decide (w.2=l)).map λw=>tI w.1
noncomputable def R3 (p:Int×Nat):AV×AV:=(.int p.1,.ref p.2)
theorem N0 {y:List (Int×Nat×List g_)} (M:ML tI b q d y) (hs:strip y=zZ a7) (kB:e[8]? =some (some (.ref d))) (Y:e[5]? =some (some (.ref o))) (O:q o=some (.list (a7.map ie))) (V:a7.length<=5):
 At (eE PG (a+1)) e q (.cmp (.var 8) .ne (.call (.cst (.bi 6)) (.cons (.comp [none,none,none,some 5] (.tup (.cons (.var 2) (.cons (.comp [none,none,none,some 2] (.var 1) [1,2] (.var 3) (.cons (.cmp (.var 2) .eq (.var 3)) .nil) .nil) .nil))) [1,2] (.var 5) .nil .nil) .nil))) false:=
 wo λQ hQ=>by
  refine QH (a5 kB) (jJ (DV (a5 Y) (tu (.list o _) a7 ie (λQ=>gI O) (λD I s=>eD q s/\∃ps:List (Int×Nat),I=ps.map (λp=>.tup [.int p.1,.ref p.2])/\ps.map (·.1)=D.map (·.2)/\∀p∈ps,s p.2=some (.list (C5 a7 p.1))) ⟨(ed _),[],rfl,rfl,(by intros;contradiction)⟩ (λ_ _ _ h=>h.1 _ _ O) ?_ ?_)))
  .intro D n r' I s hD kD K hK;refine G7 I kD λE ps C W=>?_
   refine ej [none,some (tI n.1),some (.int n.2),some (.ref o)] ?_ (Eb (M8 (a5 rfl) (uP (λw:Row=>decide (w.2=n.2)) (λw=>tI w.1) (eA (rC V)) (a5 rfl) (E _ _ O) (λw _ s1 T=>⟨[none,some (tI w.1),some (.int w.2),some (.int n.2)],rfl,tv (pw (f' (fV (a5 rfl) (a5 rfl) (eq_int rfl)))),λ_ S _=>jG (a5 rfl) rfl⟩) _ λv s1 T hv=>?_)))
   .show jN [1,2] (ie n) [none,none,none,(e[5]?).join]=_
    rw [Y];rfl
   refine jj v hv λc oc=>?_
   have kC:D.length<=5:=by
    rw [hD,bh] at V;exact a_ (eh _ _) V
   refine ⟨by rw [bb,<-bb (f:=λp:Int×Nat=>p.1),C,bb];exact rC kC,hK _ _ ⟨(b4 E T),(ps++[(n.2,c)]),(by rw [b_];rfl),(by rw [b_,b_,C];rfl),(λp m=>?_)⟩⟩
   rcases eF.mp m with m |m
   .exact T _ _ (W p m)
   .rw [dt.mp m];exact oc.at_
  .intro I s S c kx N;refine Lr kx λE ps A C W=>?_;subst A
   refine jI (.mk (.mk N.at_ ?_))
   refine gr (ps.map R3) (by rw [et];rfl) (λp m=>?_) (λkq hd=>?_)
   .refine iQ p (ck.mp m) λu _=>?_;exact oK u.1 rfl
   have z:=Qc (ps.map R3)
   have P:=fN (ay:=.dict (Bw (ps.map R3))) hd
   have H:eD q (S.set kq (.dict (Bw (ps.map R3)))):=b4 E (b4 N.le P.le)
   have Z:∀j∈y,j.2.2.map tI=C5 a7 j.1:=λj t=>by
    have:(j.1,j.2.2)∈zZ a7:=hs▸ck.mpr (ej j t rfl)
    have:=D4 (k:=λr:Row=>r.2) (x:=λr:Row=>r.1) a7 _ this
    unfold C5
    rw [show j.2.2=_ from this,et];rfl
   have km:∀p∈ps,(S.set kq (.dict (Bw (ps.map R3)))) p.2=some (.list (C5 a7 p.1)):=λp m=>P.le _ _ (N.le _ _ (W p m))
   have kl:∀l,∀u∈C5 a7 l,Plain u:=λl u hx=>by
    refine iQ u (ck.mp hx) λw _=>?_;exact xv _
   have F:(y.map (·.1)).Nodup/\∀g,g∈y.map (·.1)↔∃r∈a7,r.2=g:=by
    rw [<-rf,hs];exact sL a7
   have R:∀g:Int,AV.int g∈(Bw (ps.map R3)).map (·.1)↔∃r∈a7,r.2=g:=λg=>by
    rw [z.2.2,et,show ((λu:AV×AV=>u.1)∘R3)=AV.int∘yX from rfl,<-et,qH,C,ck]
   refine .ne (.Ik (H _ _ M.dict) P.at_ (λJ U=>?_) (λJ U=>?_) ?_ (λi r xs hm hr=>?_)) (hQ _ _ H rfl)
   .refine iQ J (ck.mp U) λj t=>?_
    exact ⟨j.1,j.2.1,_,rfl,(H _ _ (M.ls j t).1),(by rw [Z j t];exact kl _)⟩
   .refine iQ J (ck.mp (z.1 J U)) λp m=>?_
    exact ⟨p.1,p.2,_,rfl,(km p m),(kl _)⟩
   .have h1:((KW y).map (·.1)).Nodup:=by
     rw [uQ];exact yP F.1 λkF _ kG _ j=>AV.int.inj j
    have:=wB h1 z.2.1 λL=>?_
    .rw (config:={}) [bb,bb] at this;exact this
    .rw [uQ]
     constructor
     .intro B
      refine iQ L (ck.mp B) λg hg=>?_
      exact (R g).mpr ((F.2 g).mp hg)
     .intro B
      refine eS (ck.mp ((z.2.2 L).mp B)) λn G j=>?_
      refine eS (ck.mp G) λp m A=>?_;subst A
      have j:L= .int p.1:=j.symm
      rw [j] at B⊢
      exact qH.mpr ((F.2 p.1).mpr ((R p.1).mp B))
   .refine eS (ck.mp hm) λj t e2=>?_
    have X:j.1=i:=AV.int.inj (k7 e2).1
    have ky:j.2.1=r:=AV.ref.inj (k7 e2).2
    have kn:=H _ _ (M.ls j t).1
    rw [ky] at kn
    have kz:xs=C5 a7 i:=by
     have:=AO.list.inj (d5 (hr.symm.trans kn))
     rw [this,Z j t,X]
    refine eS (ck.mp ((R i).mpr ((F.2 i).mp (X▸fE t)))) λn G e3=>?_
    refine eS (ck.mp (z.1 n G)) λp m A=>?_;subst A
    have ku:p.1=i:=AV.int.inj e3
    exact ej p.2 (by rw [<-ku];exact G) (by rw [kz,<-ku];exact km p m)
theorem Uj (kn:List Int) (m8:kn.length<=63):eE PG 50 (.fn 81) [.BM kn] (λ_=>none) λv _=>v= .bool true:=by
 refine gP (a:=49) [some (.BM kn),none,none,none,none,none,none,none,none,none,none,none] (by decide) rfl rfl (NW (a:=48) (a8:=kn) (λp cl s1 hp=>?_) rfl m8)
 refine Gy (a:=42) hp rfl λc2 d1 d2 J E2 s2 mq kO lu F kG h2=>?_
 refine H7 (a:=43) (ag:=λfl _ ma=>∃mz,eD mz ma/\y7 fl= .bool true) rfl h2 kO lu F kG λc3 t1 t2 s3 l3 h3 kZ m3=>?_
 refine eS (zq F.keys) λB w1 lh=>?_
 refine eS (zq kG.keys) λW2 w2 lB=>?_
 have hW:Jl (strip J) B:=⟨w1,lh⟩
 have lP:Jl (strip E2) W2:=⟨w2,lB⟩
 have lz:∀{lF:Table} {B:List Row},vm lF 5->Jl lF B->∀r∈B,r.1.length<=4/\DY r.1/\10<=r.2/\r.1≠[]:=λhT hW r f=>D1 hT r (hW.perm.mem_iff.mp f)
 have H:=lz F hW
 have lC:=lz kG lP
 have Z:B.length<=5:=by rw [w1.length_eq];exact a_ (rh _) F.KX
 have kN:sz B<1000:=by
  have:∀R:List Row,(∀r∈R,r.1.length<=4)->sz R<=9*R.length:=by
   intro R
   induction R with
   |nil=>exact λ_=>eJ _
   |cons r R ih=>
    intro h
    have h1:=ih λq hq=>h q (.tail _ hq)
    have h2:=h r (.head _)
    show wt r+sz R<=9*(R.length+1)
    exact Xf h1 h2
  have:=this B λr f=>(H r f).1
  exact c_ (a_ this (gR 9 Z)) (by decide)
 obtain ⟨L1,g1,kW,mm,kU⟩:=Gl (aQ:=nx (strip J)) (w1.trans (p6 F.keys).symm) lh (λr f=>(H r f).2.2.1) λr f=>(H r f).2.1
 obtain ⟨L2,g2,me,_,_⟩:=Gl (aQ:=nx (strip E2)) (w2.trans (p6 kG.keys).symm) lB (λr f=>(lC r f).2.2.1) λr f=>(lC r f).2.1
 have kY:(jl A8 (nx (strip J))).steps.length<=1000:=by
  have h1:=(CP (nx (strip J)) HJ CO λr f=>(H r (w1.mem_iff.mpr ((p6 F.keys).mem_iff.mp f))).1).2.2
  have h2:(nx (strip J)).length<=5:=by rw [(p6 F.keys).length_eq,<-w1.length_eq];exact Z
  have h3:A8.steps.length=1:=rfl
  exact a_ h1 (a_ (fP (gv h3) (gR 4 h2)) (by decide))
 generalize jl A8 (nx (strip J))=A1 at*
 generalize jl A8 (nx (strip E2))=A2 at*
 have lM:∀kl,(A1.at kl).length<=5:=λkl=>by
  have:=xM (g1.ok.rO kl) (kU kl)
  rwa [bb] at this
 have lV:=l3 _ _ h2
 refine je (g7 d3 (iJ (ft (d:=0) (a5 rfl) lV d3 rfl)) (tq (by decide) λt4 lQ f4 _ _=>?_))
 have n4:=fN (ay:=.inst 5 lQ [(54,.ref d1)]) f4
 generalize u_ s3 t4 _=s4 at*
 have kQ:=b4 l3 n4.le
 refine yy (gy d3 (iJ (ft (d:=0) (a5 rfl) (kQ _ _ h2) d3 rfl)) (A6 (a:=45) (kO.le kQ) F w1 lh)) λv s5 l5 w=>?_
 refine jj v w λc5 o5=>?_
 have lX:=b4 kQ l5
 refine yy (gy d3 (iJ (ft (d:=0) (a5 rfl) (b4 n4.le l5 _ _ h3) d3 rfl)) (HR (a:=43) (n:=λv s=>∃M kx S C hs K,v= .ref M/\mY s M ⟨S,C⟩/\F1 A1 L1 0 (λkJ=>U' hs kJ 0) K/\Br A1 L1 (λkJ=>U' hs kJ 0) kx S C/\S.length=kx.length/\pQ 1 0 S=some kx.length) (kZ.le (b4 n4.le l5)) g1 mm lM kY
  λhl hs K s6 l6 mr mx hH=>D' (a:=43) (kZ.le (b4 (b4 n4.le l5) l6)) g1 hH mr mx lM kY λM kx S C s7 l7 m5 hb ku kP=>⟨M,kx,S,C,hs,K,rfl,m5,hH,hb,ku,kP⟩)) λv s6 l6 w=>?_
 refine EI w λM kx S C hs K mh=>OG mh λkz lx hH hb ku kP=>?_;subst kz
 have z:=hb.least g1 hH ku
 rw [kW] at z
 have lE:=hb.Ta kU ku
 have lZ:=hb.sorted g1.ok kU ku
 have lK:S.length<=1000:=by rw [ku];exact a_ hb.Nr kY
 have mu:pQ 1 0 S=some S.length:=by rw [ku];exact kP
 refine yy (gy d3 (iJ (a5 rfl)) (yI (a:=42) (n:=λv s=>∃tb ks U I,v= .ref tb/\ks.Nodup/\(∀g,g∈ks↔∃kl,g∈((⟨S,C⟩:Au).at kl).map (·.1))/\yH ⟨S,C⟩ (sortI ks) U I/\F7 s tb ⟨S,C⟩ I (mL ⟨S,C⟩::U)) lx z.x5.ok lE lK
  λtb ks U I s7 _ a kI c d=>⟨tb,ks,U,I,rfl,a,kI,c,d⟩)) λv s7 l7 w=>?_
 refine G6 w λtb ks U I lS=>qk lS λkz mf lO hC md=>?_;subst kz
 have lN:DY ks:=λg hg=>by refine j_ ((lO g).mp hg) λkl lT=>?_;exact lE kl g lT
 have kK:=b4 lX (b4 l6 l7)
 have kT:eD s3 s7:=b4 n4.le (b4 l5 (b4 l6 l7))
 have km:vF s7 p cl 72 c2 d1 d2 c3 t1 t2 t4 c5 M tb J E2 A1 A2 ⟨S,C⟩ B I (mL ⟨S,C⟩::U):=
  ⟨mq.keep kK,kK _ _ h2,kO.le kK,lu.le kK,kT _ _ h3,kZ.le kT,m3.le kT,(oK lQ (b4 l5 (b4 l6 l7) _ _ n4.at_)),b4 l6 l7 _ _ o5.at_,lx.le l7,md⟩
 have hP:Ui J E2 A1 A2 ⟨S,C⟩ B I (mL ⟨S,C⟩::U):=⟨F,kG,hW,(ej L1 g1 kW),(nu W2 L2 g2 me lP),(ej _ z.x5 z.l0)⟩
 refine eS (KG (hW.P4 F)) λlA hV lI=>?_
 have lR:∀{s:AS} {N:Nat} {A:Au} {L:Nat->List Row} {X:MM} {kD:CE},Ev (eE PG 49) X s kD (.ref N)->mY s N A->tS A L->L 0=B->Al (eE PG 49) X s (.call (.cst (.fn 48)) (.cons kD .nil)) λv s'=>∃c,v= .ref c/\s' c=some (.list (B.map ie)):=λ{s N A L X kD} he hA hg h0=>
  gy d3 (iJ he) (uO (si (a:=45) hA hg (by rw [h0];exact Z) (by rw [h0];exact kN)) λv s' _ w=>by rw [h0] at w;exact sQ w)
 refine pG (aw:=false||(false||false)) (FG (wD (uX B) (lR (ft (d:=0) (a5 rfl) km.l3 d3 rfl) km.UT g1 kW) λs l=>jG (a5 rfl) (ej c5 rfl (l _ _ km.wl))) λ_ s8 l8=>
  FG (wD (uX B) (lR (a5 rfl) (km.le l8).lean z.x5 z.l0) λs l=>jG (a5 rfl) (ej c5 rfl (l _ _ (km.le l8).wl))) λ_ s9 l9=>
   NU (l:=Gz B ((strip J).map (·.1))) (H6 _) ?_ λs l=>?_) λmF lY=>⟨(by intros;contradiction),λ_=>s_end ?_⟩
 .have lU:=km.le (b4 l8 l9)
  refine λQ O=>NZ (gy d3 (iJ (a5 rfl)) (BZ (a:=44) (n:=λv s=>∃N d dx E,v= .ref N/\s N=some (.inst 5 dx [(54,.ref d)])/\kj s d E/\strip E=tabOf lA) lU.lean z.x5 (by rw [z.l0];exact Z) (by rw [z.l0];exact kN) (by rw [z.l0];exact λr f=>(H r f).2.2.2) (a7:=lA) (by rw [z.l0];exact hV) lI
   λN d dx E s _ a kI c=>(vb N d dx E rfl a kI c))) λv lD Y w=>?_
  refine yb w λN d dx E kz a kI c=>?_;subst kz
  refine ⟨N,dx,d,rfl,a,(Jo (a:=43) (a7:=B) a kI (c▸NT hV Z λr f=>⟨(H r f).2.2.2,(H r f).2.1,(H r f).1,(H r f).2.2.1⟩) (c▸H5 hV (hW.P4 F) (λr f=>(H r f).2.2.2) lI) Q λv kH kC w=>O v kH (b4 Y kC) ?_)⟩
  rw [w];exact (Qb F hW hV c).symm
 .have hL:=km.le (b4 (b4 l8 l9) l)
  refine j_ hL.HG λdx ly=>?_
  exact λQ O=>NZ (n:=λv _=>v= .ref t4) (jG (a5 rfl) rfl) λv lD Y w=>⟨t4,dx,d1,w,(Y _ _ ly),(Jo (a:=43) (Y _ _ ly) (hL.NX.le Y) F (RZ F hW) Q λv kH kC w=>O v kH (b4 Y kC) w)⟩
 have ky:=km.le lY
 refine pG (aw:=false||false) (FG (NU (l:=.tup [.int S.length,.int (mL ⟨S,C⟩::U).length]) (.tup _ _ λkJ hx=>?_) ?_ λs l=>?_) λ_ lD Y=>?_) λkH kC=>⟨(by intros;contradiction),λ_=>s_end ?_⟩
 .cases hx with
  |head=>exact .int _ _
  |tail _ hx=>
   cases hx with
   |head=>exact .int _ _
   |tail _ hx=>exact (eg hx).elim
 .obtain ⟨lr,ca,lJ,en,kX,G⟩:=ky.st
  have mw:0<kX.length:=by rw [G.len];exact z.x5.ok.pos
  have e0:=dj mw
  have kF:=jd (a:=48) (e:=[some (.BM kn),some (.ref p),some (.ref c2),some (.ref c3),some (.ref t4),some (.ref c5),some (.ref M),some (.ref tb),none,none,none,none]) (ft (g:=.attr (.var 7) 58) (D:=.cst (.int 0)) (d:=0) (eO (a5 rfl) G.obj rfl) G.rows d3 (by rw [ee,e0];rfl)) (f9 (G.row 0 _ e0))
  rw [bb] at kF
  exact jG (g6 (iL (uS (a:=45) ky.lean rfl) kF)) rfl
 .exact gy d3 (iJ (a5 rfl)) (HT (a:=44) ((ky.le l).wl) Z kN λ_ _=>by rw (config:={}) [<-z.size,<-z.cols hC lO lN])
 .obtain ⟨lr,ca,lJ,en,kX,G⟩:=(ky.le Y).st
  have kF:=jd (a:=48) (e:=[some (.BM kn),some (.ref p),some (.ref c2),some (.ref c3),some (.ref t4),some (.ref c5),some (.ref M),some (.ref tb),none,none,none,none]) (eO (g:=.var 7) (a:=58) (a5 rfl) G.obj rfl) (f9 G.rows)
  rw [bb,G.len] at kF
  exact pw (f' (fV kF (uS (a:=45) (ky.le Y).lean rfl) (ne_int (by rw [decide_eq_true rfl];rfl))))
 have lG:=ky.le kC
 refine yy (gy d3 (iJ (a5 rfl)) (Bc (a:=44) (n:=λv s=>∃d8 E8,v= .ref d8/\ML tI kH s d8 E8/\strip E8=zZ B) lG.lean z.x5 (by rw [z.l0];exact Z) (by rw [z.l0];exact kN) λd E s _ hE hs=>(nu d E rfl hE (by rw [hs,z.l0])))) λv mE mn w=>?_
 refine v8 v w λd8 E8 h8 mv=>?_
 have lH:=lG.le mn
 refine pG (aw:=false) (N0 (a:=48) h8 mv rfl rfl lH.wl Z) λmJ m6=>⟨(by intros;contradiction),λ_=>s_end ?_⟩
 have lj:=lH.le m6
 obtain ⟨mB,mH,e6,mI,hB⟩:=lj.lean
 refine pG (aw:=false) (yx (aw:=true) (rN λQ O=>Gh (eO (a5 rfl) hB.obj rfl) (tw (λ_=>true) (λg:Int=>sj ((I.lookup g).getD 0)) [1,2,3,4,5] AV.int (by unfold fF;decide) (n:=λv _=>v= .pU 1 6 1) (jG (vv (a:=48) (d:=1) (o:=6) d3 d3 (by decide) (by decide)) rfl) (λv lg _ kD=>(ej .pU (λ_ _=>trivial) (λQ O=>by rw [kD];exact tr (a:=1) (d:=6) O))) λg _ lg kq=>(gr [none,some (.int g),some (.ref tb)] rfl xB (λ_ lL kV=>?_)))
  λv lg kq w=>?_)) λlg kq=>⟨(by intros;contradiction),λ_=>s_end ?_⟩
 .obtain ⟨lr,ca,lJ,en,kX,G⟩:=(lj.le (b4 kq kV)).st
  obtain ⟨mC,dc,m9,mG⟩:=id G.cls
  exact jG (λQ O=>jr (eO (a5 rfl) G.obj rfl) m9 rfl rfl rfl (iJ (a5 rfl)) (sd (by decide) G.cls O)) rfl
 .refine jj v w λcn on=>?_
  have lq:=on.at_
  rw [jv.mpr λ_ _=>rfl,show ([1,2,3,4,5]:List Int).map (λg=>sj ((I.lookup g).getD 0))=(([1,2,3,4,5]:List Int).map λg=>(I.lookup g).getD 0).map sj from rfl] at lq
  exact B1 (a:=45) (n:=λv _=>v= .bool true) (kq _ _ hB.steps) (hB.AP.le kq) lq lZ mu (hC.nums mf lN) lK (λ_ _=>rfl) _ λv lL kV w=>O v lL (b4 kq kV) w
 have lW:=lj.le kq
 refine A4 (jJ (d3 _ (tA (a:=48) (d:=3) (by decide) (iG .pU (eQ 3) (λmi=>.int (mi:Nat)) (λQ=>p4) (λD X s=>vF s p cl (72+12*D.length) c2 d1 d2 c3 t1 t2 t4 c5 M tb J E2 A1 A2 ⟨S,C⟩ B I (mL ⟨S,C⟩::U)/\∃w9 kM kB,X=[some (.BM kn),some (.ref p),some (.ref c2),some (.ref c3),some (.ref t4),some (.ref c5),some (.ref M),some (.ref tb),some (.ref d8),w9,kM,kB]) ⟨lW,_,_,_,rfl⟩ (λ_ _ _ _=>trivial) ?_ ?_))))
 .intro D y r' X s hD m7 K hK;refine Ln X m7 λhL w9 kM kB=>?_
  have m4:D.length<=3:=by
   have:=congrArg fj hD
   rw [ff,bh] at this
   exact a_ (eh _ _) (gv this.symm)
  refine ej _ rfl (Gx (a:=43) hL (by exact c_ (d7 (gR 12 m4) 72) (by decide)) (λq hq=>(H q hq).1) Z λcg gs s' kB ml hg mA=>KJ (a:=38) ml hP hg mA λmD kM kB my=>hK _ _ ⟨?_,_,_,_,rfl⟩)
  rw [bh,i9,Nat.mul_add,Nat.mul_one,<-fJ]
  exact my
 .intro X s mj;refine Ln X mj λhL w9 kM kB=>?_
  exact iM d3 (ej _ (ed _) rfl)
end Mine
set_option tactic.hygienic true
set_option bootstrap.genMatcherCode true
set_option Elab.async true
namespace Mine.hq
theorem tw6442286201827202927:True:=⟨⟩
theorem tw13751960006981385605:True:=⟨⟩
theorem tw9901041768872518651:True:=⟨⟩
theorem tw5611102857607521741:True:=⟨⟩
theorem tw18023701660430168103:True:=⟨⟩
theorem tw15905874718496805183:True:=⟨⟩
theorem tw233199577985559970:True:=⟨⟩
theorem tw12634840236772402975:True:=⟨⟩
theorem tw11862694879087426096:True:=⟨⟩
theorem tw14338712846634258801:True:=⟨⟩
theorem tw9428742883436320482:True:=⟨⟩
theorem tw15534325259311548342:True:=⟨⟩
theorem tw12496698030514209297:True:=⟨⟩
theorem tw12664413295080255743:True:=⟨⟩
theorem tw2367623169485729044:True:=⟨⟩
theorem tw6987171224388242222:True:=⟨⟩
theorem tw7089316416521786280:True:=⟨⟩
theorem tw13553215187314863201:True:=⟨⟩
theorem tw16393828553131281715:True:=⟨⟩
theorem tw15674605124737195981:True:=⟨⟩
theorem tw1790225447845560585:True:=⟨⟩
theorem tw16809807526908380884:True:=⟨⟩
theorem tw909575876175560465:True:=⟨⟩
theorem tw15812451359255101891:True:=⟨⟩
theorem tw9083301775340355608:True:=⟨⟩
theorem tw4666310112322607275:True:=⟨⟩
theorem tw3895977767261139510:True:=⟨⟩
theorem tw16372276340707851479:True:=⟨⟩
theorem tw18430880168501906121:True:=⟨⟩
theorem tw12514970091603982059:True:=⟨⟩
theorem tw4017666659659470015:True:=⟨⟩
theorem tw12911645755892562355:True:=⟨⟩
theorem tw12505053496867080562:True:=⟨⟩
theorem tw6707030878703492132:True:=⟨⟩
theorem tw4001032458579979667:True:=⟨⟩
theorem tw8092459957483288813:True:=⟨⟩
theorem tw994457080456318729:True:=⟨⟩
theorem tw14772127340083367040:True:=⟨⟩
theorem tw7253851005133477568:True:=⟨⟩
theorem tw5691554338385257998:True:=⟨⟩
theorem tw3560430997919898871:True:=⟨⟩
theorem tw13769147277773836033:True:=⟨⟩
theorem tw9127893848950081433:True:=⟨⟩
theorem tw1515599132787875686:True:=⟨⟩
theorem tw4268526678770356015:True:=⟨⟩
theorem tw12481044172393887954:True:=⟨⟩
theorem tw13100683107442814338:True:=⟨⟩
theorem tw4701845322466739022:True:=⟨⟩
theorem tw1750795104730000546:True:=⟨⟩
theorem tw14733770234564473523:True:=⟨⟩
theorem tw8238198130762350294:True:=⟨⟩
theorem tw8914243485484973694:True:=⟨⟩
theorem tw1700315315751232304:True:=⟨⟩
theorem tw4057580815170638606:True:=⟨⟩
theorem tw18442532955660031598:True:=⟨⟩
theorem tw18257735861726044745:True:=⟨⟩
theorem tw16552130286418335332:True:=⟨⟩
theorem tw1441488458906403996:True:=⟨⟩
theorem tw7527418259463458165:True:=⟨⟩
theorem tw5028797041122850161:True:=⟨⟩
theorem tw11904904241039891960:True:=⟨⟩
theorem tw13328776239465341797:True:=⟨⟩
theorem tw2757439949053186533:True:=⟨⟩
theorem tw7179472203213589255:True:=⟨⟩
theorem tw8331520620733812097:True:=⟨⟩
theorem tw16750279658653203061:True:=⟨⟩
theorem tw8912192177817946102:True:=⟨⟩
theorem tw667236257013756550:True:=⟨⟩
theorem tw13604076548809337595:True:=⟨⟩
theorem tw5749242349582785463:True:=⟨⟩
theorem tw7511721461442411465:True:=⟨⟩
theorem tw12360401225053915393:True:=⟨⟩
theorem tw3211473203395817243:True:=⟨⟩
theorem tw14512733808186690832:True:=⟨⟩
theorem tw18340721319590389962:True:=⟨⟩
theorem tw9612742909652353465:True:=⟨⟩
theorem tw17884644973305957733:True:=⟨⟩
theorem tw1154563227431711215:True:=⟨⟩
theorem tw1803784778914781481:True:=⟨⟩
theorem tw2060327042702796305:True:=⟨⟩
theorem tw15189462117764140124:True:=⟨⟩
theorem tw3422547408385998623:True:=⟨⟩
theorem tw18332427662228458139:True:=⟨⟩
theorem tw3480666100315175299:True:=⟨⟩
theorem tw5914124745671280715:True:=⟨⟩
theorem tw14353095049506806319:True:=⟨⟩
theorem tw2996563815162090415:True:=⟨⟩
theorem tw3491428954475440883:True:=⟨⟩
theorem tw5301994602263957399:True:=⟨⟩
theorem tw11085315714167747792:True:=⟨⟩
theorem tw11341742245578585151:True:=⟨⟩
theorem tw16897822082616854030:True:=⟨⟩
theorem tw10187816474469822774:True:=⟨⟩
theorem tw5731166914374295624:True:=⟨⟩
theorem tw12889914191371890957:True:=⟨⟩
theorem tw4384125343571282268:True:=⟨⟩
theorem tw10000794576204330153:True:=⟨⟩
theorem tw2892285669437799826:True:=⟨⟩
theorem tw722643689031310280:True:=⟨⟩
theorem tw3085968280470273992:True:=⟨⟩
theorem tw3154463578298619625:True:=⟨⟩
theorem tw3544906069245241880:True:=⟨⟩
theorem tw9812839542755203597:True:=⟨⟩
theorem tw15945134739743178578:True:=⟨⟩
theorem tw2064276708794333371:True:=⟨⟩
theorem tw16752249409316337403:True:=⟨⟩
theorem tw15651339461893351178:True:=⟨⟩
theorem tw9260111500061609200:True:=⟨⟩
theorem tw1500765314571102690:True:=⟨⟩
theorem tw6118443615581677530:True:=⟨⟩
theorem tw6815685841524224632:True:=⟨⟩
theorem tw16310537014886237944:True:=⟨⟩
theorem tw540485975783732659:True:=⟨⟩
theorem tw3161153080226833229:True:=⟨⟩
theorem tw13495405613607610781:True:=⟨⟩
theorem tw13959481576897727349:True:=⟨⟩
theorem tw11150044685417158869:True:=⟨⟩
theorem tw3445220037759595600:True:=⟨⟩
theorem tw17191537605157243135:True:=⟨⟩
theorem tw13170102597804110052:True:=⟨⟩
theorem tw12617662541128001882:True:=⟨⟩
theorem tw3902250879547172936:True:=⟨⟩
theorem tw2408465754971806201:True:=⟨⟩
theorem tw6618208201849933638:True:=⟨⟩
theorem tw4991336011138955280:True:=⟨⟩
theorem tw13450832908405550097:True:=⟨⟩
theorem tw8289973216720156474:True:=⟨⟩
theorem tw9763324061818089090:True:=⟨⟩
theorem tw9375045823711978607:True:=⟨⟩
theorem tw7025414876460286934:True:=⟨⟩
theorem tw4167004640589313651:True:=⟨⟩
theorem tw3014720679539756873:True:=⟨⟩
theorem tw8049949838826251480:True:=⟨⟩
theorem tw926538531027841127:True:=⟨⟩
theorem tw8377207884362891880:True:=⟨⟩
theorem tw12590562862586613239:True:=⟨⟩
theorem tw13943852286573993618:True:=⟨⟩
theorem tw8491087748805393471:True:=⟨⟩
theorem tw3413191660162019370:True:=⟨⟩
theorem tw4194152291734139813:True:=⟨⟩
theorem tw11402776170388669038:True:=⟨⟩
theorem tw12939260477051835880:True:=⟨⟩
theorem tw17688975350060823859:True:=⟨⟩
theorem tw11955610403688730753:True:=⟨⟩
theorem tw7861226076304730246:True:=⟨⟩
theorem tw2706923899692441627:True:=⟨⟩
theorem tw17909812858496967348:True:=⟨⟩
theorem tw3478883397168826629:True:=⟨⟩
theorem tw12428739965439566872:True:=⟨⟩
theorem tw15947022525539137760:True:=⟨⟩
theorem tw14818870746610397590:True:=⟨⟩
theorem tw9524481874210789358:True:=⟨⟩
theorem tw7276312473770576539:True:=⟨⟩
theorem tw14593943014257951374:True:=⟨⟩
theorem tw5906174600817787350:True:=⟨⟩
theorem tw14641220288254092781:True:=⟨⟩
theorem tw2505651065827292706:True:=⟨⟩
theorem tw6301188507028695425:True:=⟨⟩
theorem tw16637177162505234527:True:=⟨⟩
theorem tw10657596162594908759:True:=⟨⟩
theorem tw13585818629147946182:True:=⟨⟩
theorem tw15281599693950754896:True:=⟨⟩
theorem tw17463812411989068010:True:=⟨⟩
theorem tw16867273931720873272:True:=⟨⟩
theorem tw13001207721643841512:True:=⟨⟩
theorem tw9978726442917373551:True:=⟨⟩
theorem tw4251841842268149677:True:=⟨⟩
theorem tw1869912705798827136:True:=⟨⟩
theorem tw8728209164801503031:True:=⟨⟩
theorem tw17313500477962296120:True:=⟨⟩
theorem tw6492908563196855892:True:=⟨⟩
theorem tw18287939907917545381:True:=⟨⟩
theorem tw15170669351824557439:True:=⟨⟩
theorem tw9549253132143110608:True:=⟨⟩
theorem tw18346841983034571262:True:=⟨⟩
theorem tw540608965632813519:True:=⟨⟩
theorem tw10223406500745991142:True:=⟨⟩
theorem tw4515192732947451210:True:=⟨⟩
theorem tw16941475275509793766:True:=⟨⟩
theorem tw9151865133259420103:True:=⟨⟩
theorem tw84437323512654445:True:=⟨⟩
theorem tw12420351203523029791:True:=⟨⟩
theorem tw7002464205399081975:True:=⟨⟩
theorem tw2175518295204102879:True:=⟨⟩
theorem tw7740853044027385959:True:=⟨⟩
theorem tw13992288386993298184:True:=⟨⟩
theorem tw2260561623700716748:True:=⟨⟩
theorem tw13398516417001538080:True:=⟨⟩
theorem tw5282431362952038235:True:=⟨⟩
theorem tw12485548662368916749:True:=⟨⟩
theorem tw16086767934403656065:True:=⟨⟩
theorem tw8714194948018631825:True:=⟨⟩
theorem tw4848108807988124131:True:=⟨⟩
theorem tw7441071891799560861:True:=⟨⟩
theorem tw13133925777924542315:True:=⟨⟩
theorem tw8280607470232188737:True:=⟨⟩
theorem tw13502862691939865659:True:=⟨⟩
theorem tw5812001181764318152:True:=⟨⟩
theorem tw15726504573289427775:True:=⟨⟩
theorem tw2990441756992739365:True:=⟨⟩
theorem tw2338785445158028428:True:=⟨⟩
theorem tw9895131460724483007:True:=⟨⟩
theorem tw781474288783034380:True:=⟨⟩
theorem tw10957233804992961332:True:=⟨⟩
theorem tw16854146946076394113:True:=⟨⟩
theorem tw18377318545847360015:True:=⟨⟩
theorem tw8149433206854638965:True:=⟨⟩
theorem tw7850188486041987321:True:=⟨⟩
theorem tw16549860719943262585:True:=⟨⟩
theorem tw6081658456115023458:True:=⟨⟩
theorem tw9011243111761860492:True:=⟨⟩
theorem tw3568306119967612974:True:=⟨⟩
theorem tw14587594007023303460:True:=⟨⟩
theorem tw6112821752894491310:True:=⟨⟩
theorem tw15723494032090786635:True:=⟨⟩
theorem tw9915848678032667492:True:=⟨⟩
theorem tw17389483476063430775:True:=⟨⟩
theorem tw8379139677283497518:True:=⟨⟩
theorem tw6703137428290144329:True:=⟨⟩
theorem tw8730326856917428115:True:=⟨⟩
theorem tw15256828576862472125:True:=⟨⟩
theorem tw2892858402054980869:True:=⟨⟩
theorem tw1860683089816694825:True:=⟨⟩
theorem tw13406518014326716138:True:=⟨⟩
theorem tw7219658615716743296:True:=⟨⟩
theorem tw10688613817813675982:True:=⟨⟩
theorem tw8988888807559320894:True:=⟨⟩
theorem tw17526359418520415453:True:=⟨⟩
theorem tw10844470459063464443:True:=⟨⟩
theorem tw14501324938897067561:True:=⟨⟩
theorem tw11207855887277221106:True:=⟨⟩
theorem tw12506642881698933559:True:=⟨⟩
theorem tw7544271963468501779:True:=⟨⟩
theorem tw8308388744524497552:True:=⟨⟩
theorem tw11961918275323247916:True:=⟨⟩
theorem tw285311508116289287:True:=⟨⟩
theorem tw7442177523960112853:True:=⟨⟩
theorem tw13891769438995799445:True:=⟨⟩
theorem tw456172942799691745:True:=⟨⟩
theorem tw17641890241275046623:True:=⟨⟩
theorem tw4375985329216827839:True:=⟨⟩
theorem tw11824069836422780227:True:=⟨⟩
theorem tw18276807595065023739:True:=⟨⟩
theorem tw1808943091658265301:True:=⟨⟩
theorem tw5148840542955322005:True:=⟨⟩
theorem tw16316352616789880349:True:=⟨⟩
theorem tw15385585939819168887:True:=⟨⟩
theorem tw9768242074103074221:True:=⟨⟩
theorem tw17577272718891032105:True:=⟨⟩
theorem tw14375828484873233585:True:=⟨⟩
theorem tw9133466482286349414:True:=⟨⟩
theorem tw13206510289756453029:True:=⟨⟩
theorem tw7795197914602774408:True:=⟨⟩
theorem tw10914737284747560342:True:=⟨⟩
theorem tw12285651354710344000:True:=⟨⟩
theorem tw9025512103472134450:True:=⟨⟩
theorem tw7723358927924880359:True:=⟨⟩
theorem tw17719787235402466642:True:=⟨⟩
theorem tw4741875132220596311:True:=⟨⟩
theorem tw1629939692016619404:True:=⟨⟩
theorem tw10386670604418296725:True:=⟨⟩
theorem tw4724890111835787062:True:=⟨⟩
theorem tw10340674731281136786:True:=⟨⟩
theorem tw10240522916743850443:True:=⟨⟩
theorem tw8619330007972718021:True:=⟨⟩
theorem tw779450028884369565:True:=⟨⟩
theorem tw7124110289175886657:True:=⟨⟩
theorem tw10312157954276465073:True:=⟨⟩
theorem tw4611843103851283707:True:=⟨⟩
theorem tw13169572222614648372:True:=⟨⟩
theorem tw4836737923570769024:True:=⟨⟩
theorem tw1356178445314535933:True:=⟨⟩
theorem tw9493725803484967530:True:=⟨⟩
theorem tw9034970781958629739:True:=⟨⟩
theorem tw16753647990397320144:True:=⟨⟩
theorem tw1696085958373183647:True:=⟨⟩
theorem tw3894871946632657679:True:=⟨⟩
theorem tw10599665552369709638:True:=⟨⟩
theorem tw8698537833381394938:True:=⟨⟩
theorem tw10189871300808820423:True:=⟨⟩
theorem tw13538046220882042919:True:=⟨⟩
theorem tw4771323023915023754:True:=⟨⟩
theorem tw15154717597991252850:True:=⟨⟩
theorem tw17191050232335479264:True:=⟨⟩
theorem tw8073309143868657023:True:=⟨⟩
theorem tw7143774053992968743:True:=⟨⟩
theorem tw18201938650840483205:True:=⟨⟩
theorem tw5991825269154617347:True:=⟨⟩
theorem tw14627097287796702097:True:=⟨⟩
theorem tw370567924381415039:True:=⟨⟩
theorem tw13201679970922164330:True:=⟨⟩
theorem tw781851627551156493:True:=⟨⟩
theorem tw1426369009746784495:True:=⟨⟩
theorem tw13468631102399112637:True:=⟨⟩
theorem tw14121371055001849588:True:=⟨⟩
theorem tw16807017868417353128:True:=⟨⟩
theorem tw12463699929421395298:True:=⟨⟩
theorem tw10627058812956214444:True:=⟨⟩
theorem tw10001376382149582108:True:=⟨⟩
theorem tw10443077905528899420:True:=⟨⟩
theorem tw9659669307319190640:True:=⟨⟩
theorem tw14237485161361176573:True:=⟨⟩
theorem tw1021251713497096614:True:=⟨⟩
theorem tw4371991447599467917:True:=⟨⟩
theorem tw6745714709360910150:True:=⟨⟩
theorem tw15976676881008073619:True:=⟨⟩
theorem tw524533962094920779:True:=⟨⟩
theorem tw3519017797754897595:True:=⟨⟩
theorem tw6156483766952535384:True:=⟨⟩
theorem tw2330199731370687674:True:=⟨⟩
theorem tw11092556201938335259:True:=⟨⟩
theorem tw13886267558521391256:True:=⟨⟩
theorem tw10952823829123372175:True:=⟨⟩
theorem tw6655851296632736839:True:=⟨⟩
theorem tw3858470327796980622:True:=⟨⟩
theorem tw195319319105484837:True:=⟨⟩
theorem tw8635002137240528865:True:=⟨⟩
theorem tw7907064084398135858:True:=⟨⟩
theorem tw11776274656460757702:True:=⟨⟩
theorem tw5791947149359680519:True:=⟨⟩
theorem tw4115226851099395319:True:=⟨⟩
theorem tw236723228397773276:True:=⟨⟩
theorem tw17485836952703706218:True:=⟨⟩
theorem tw18250771422189292895:True:=⟨⟩
theorem tw14287419288450536493:True:=⟨⟩
theorem tw3432454565359172088:True:=⟨⟩
theorem tw10723133140268546484:True:=⟨⟩
theorem tw13727620303709000063:True:=⟨⟩
theorem tw15734650141668845536:True:=⟨⟩
theorem tw8514201188782895330:True:=⟨⟩
theorem tw15079305990305215762:True:=⟨⟩
theorem tw917919121290004258:True:=⟨⟩
theorem tw16720732291038750756:True:=⟨⟩
theorem tw1277910818872460002:True:=⟨⟩
theorem tw18149566355827359682:True:=⟨⟩
theorem tw271354171592042819:True:=⟨⟩
theorem tw15629568606158070697:True:=⟨⟩
theorem tw10376031466752974828:True:=⟨⟩
theorem tw1325443426954384515:True:=⟨⟩
theorem tw4171725333644275513:True:=⟨⟩
theorem tw13354247350071896366:True:=⟨⟩
theorem tw3616478996217396334:True:=⟨⟩
theorem tw1775702854415158705:True:=⟨⟩
theorem tw1008392425469263001:True:=⟨⟩
theorem tw16906622726145663866:True:=⟨⟩
theorem tw7589107396602480322:True:=⟨⟩
theorem tw5294006075737667050:True:=⟨⟩
theorem tw11550264267855334806:True:=⟨⟩
theorem tw16003533353896068565:True:=⟨⟩
theorem tw3475086186801777325:True:=⟨⟩
theorem tw5895416178271551497:True:=⟨⟩
theorem tw4950995695539448390:True:=⟨⟩
theorem tw5186555515663700001:True:=⟨⟩
theorem tw16240424374227401199:True:=⟨⟩
theorem tw2568601839324270733:True:=⟨⟩
theorem tw4026668784279576677:True:=⟨⟩
theorem tw7587259842506438161:True:=⟨⟩
theorem tw3497761787417317800:True:=⟨⟩
theorem tw11895432268523212573:True:=⟨⟩
theorem tw3647894231261621685:True:=⟨⟩
theorem tw925611148017520223:True:=⟨⟩
theorem tw5613207279310253425:True:=⟨⟩
theorem tw18141165161687149130:True:=⟨⟩
theorem tw2944990559481669907:True:=⟨⟩
theorem tw16325697439411301246:True:=⟨⟩
theorem tw10557348633716791549:True:=⟨⟩
theorem tw2446711658860428672:True:=⟨⟩
theorem tw17451322227400245958:True:=⟨⟩
theorem tw14567226737135143758:True:=⟨⟩
theorem tw8474040522217814807:True:=⟨⟩
theorem tw533107537510362154:True:=⟨⟩
theorem tw8201169055858481340:True:=⟨⟩
theorem tw13139415309826760691:True:=⟨⟩
theorem tw11596143682707957329:True:=⟨⟩
theorem tw2920460233129220235:True:=⟨⟩
theorem tw5740101952899550972:True:=⟨⟩
theorem tw2921467058064614194:True:=⟨⟩
theorem tw13095705539143481525:True:=⟨⟩
theorem tw3461464765368363466:True:=⟨⟩
theorem tw3627233070818523257:True:=⟨⟩
theorem tw1658547955452154472:True:=⟨⟩
theorem tw4665913176990191628:True:=⟨⟩
theorem tw5219493252240457098:True:=⟨⟩
theorem tw15923224271504869091:True:=⟨⟩
theorem tw1575580736563710142:True:=⟨⟩
theorem tw1052231730491438768:True:=⟨⟩
theorem tw14969264746431923806:True:=⟨⟩
theorem tw12235868485125894331:True:=⟨⟩
theorem tw18227684946361417376:True:=⟨⟩
theorem tw5131631581878701464:True:=⟨⟩
theorem tw15952631729719037887:True:=⟨⟩
theorem tw9168773537736573765:True:=⟨⟩
theorem tw8612858684465989739:True:=⟨⟩
theorem tw12403577218061224004:True:=⟨⟩
theorem tw6738601660276500248:True:=⟨⟩
theorem tw384518735521986950:True:=⟨⟩
theorem tw8267469052338804902:True:=⟨⟩
theorem tw9604195178463712877:True:=⟨⟩
theorem tw541360200788322803:True:=⟨⟩
theorem tw17688041192245645826:True:=⟨⟩
theorem tw13845924549195999638:True:=⟨⟩
theorem tw17939040331521840985:True:=⟨⟩
theorem tw10010650081863701617:True:=⟨⟩
theorem tw16936868174623810526:True:=⟨⟩
theorem tw15491281439746748380:True:=⟨⟩
theorem tw14768286036203141162:True:=⟨⟩
theorem tw9709202937309959836:True:=⟨⟩
theorem tw3421353514304016194:True:=⟨⟩
theorem tw8843670863553936208:True:=⟨⟩
theorem tw13991502105691641572:True:=⟨⟩
theorem tw10760802254342755420:True:=⟨⟩
theorem tw5070146122541468937:True:=⟨⟩
theorem tw12417311007122829836:True:=⟨⟩
theorem tw7672739943655470209:True:=⟨⟩
theorem tw193804917870597374:True:=⟨⟩
theorem tw5288753061374985246:True:=⟨⟩
theorem tw9824468883573414275:True:=⟨⟩
theorem tw1618621502537572984:True:=⟨⟩
theorem tw10968501387965271627:True:=⟨⟩
theorem tw1569526789006978644:True:=⟨⟩
theorem tw13605588708827000737:True:=⟨⟩
theorem tw8316094494326325915:True:=⟨⟩
theorem tw6304881022484498786:True:=⟨⟩
theorem tw5631452819739503144:True:=⟨⟩
theorem tw17486772711794031567:True:=⟨⟩
theorem tw15114332125836811107:True:=⟨⟩
theorem tw7128186512092943417:True:=⟨⟩
theorem tw6578545976327660020:True:=⟨⟩
theorem tw6693717068639252140:True:=⟨⟩
theorem tw12058654197788596436:True:=⟨⟩
theorem tw10808934275972336993:True:=⟨⟩
theorem tw13442961659502248502:True:=⟨⟩
theorem tw14544256373392573544:True:=⟨⟩
theorem tw10846754605235202416:True:=⟨⟩
theorem tw8114841426480393502:True:=⟨⟩
theorem tw8703168442280000639:True:=⟨⟩
theorem tw16757073528338650253:True:=⟨⟩
theorem tw14187982978997237623:True:=⟨⟩
theorem tw4168501321830442705:True:=⟨⟩
theorem tw9783508634671734158:True:=⟨⟩
theorem tw12771422461613121140:True:=⟨⟩
theorem tw16038714658078415096:True:=⟨⟩
theorem tw4288558672954378248:True:=⟨⟩
theorem tw80881765779249268:True:=⟨⟩
theorem tw1500719978199872653:True:=⟨⟩
theorem tw7943481926809457172:True:=⟨⟩
theorem tw766174105371304529:True:=⟨⟩
theorem tw8804238086855099115:True:=⟨⟩
theorem tw6428791715259595817:True:=⟨⟩
theorem tw12892139197361222039:True:=⟨⟩
theorem tw16046787055161014137:True:=⟨⟩
theorem tw15256606102660637263:True:=⟨⟩
theorem tw1601456569762913703:True:=⟨⟩
theorem tw12224511430472119265:True:=⟨⟩
theorem tw13302039441676172322:True:=⟨⟩
theorem tw10366571678140251363:True:=⟨⟩
theorem tw7902054454379397355:True:=⟨⟩
theorem tw14064881765782178520:True:=⟨⟩
theorem tw8534005610739842664:True:=⟨⟩
theorem tw13358896697937006319:True:=⟨⟩
theorem tw9031073068422697509:True:=⟨⟩
theorem tw4797868753551183999:True:=⟨⟩
theorem tw4700772123730980896:True:=⟨⟩
theorem tw12219819207030029821:True:=⟨⟩
theorem tw229735081045165173:True:=⟨⟩
theorem tw8878085667783850231:True:=⟨⟩
theorem tw6847527207690855968:True:=⟨⟩
theorem tw5080482457446688561:True:=⟨⟩
theorem tw14223039591066305815:True:=⟨⟩
theorem tw13370623703081640355:True:=⟨⟩
theorem tw9616370734746824208:True:=⟨⟩
theorem tw9117675943426644266:True:=⟨⟩
theorem tw7813778406405503521:True:=⟨⟩
theorem tw13127699335793737955:True:=⟨⟩
theorem tw16653776548582141348:True:=⟨⟩
theorem tw1560922779193176835:True:=⟨⟩
theorem tw17490343775666085965:True:=⟨⟩
theorem tw12092680090172259033:True:=⟨⟩
theorem tw3702623868654441055:True:=⟨⟩
theorem tw9381266235724177792:True:=⟨⟩
theorem tw2023342415286700836:True:=⟨⟩
theorem tw8632563731568542535:True:=⟨⟩
theorem tw13946695615888808057:True:=⟨⟩
theorem tw11603209444005165735:True:=⟨⟩
theorem tw10899058296728633960:True:=⟨⟩
theorem tw2659005122276549912:True:=⟨⟩
theorem tw14236710644850426643:True:=⟨⟩
theorem tw7429005892963545473:True:=⟨⟩
theorem tw9901537562536030562:True:=⟨⟩
theorem tw8172153524177814700:True:=⟨⟩
theorem tw639632618262785173:True:=⟨⟩
theorem tw15572320602475567533:True:=⟨⟩
theorem tw8062890331336429170:True:=⟨⟩
theorem tw3279247951013379325:True:=⟨⟩
theorem tw17982033904585381360:True:=⟨⟩
theorem tw1710684574680506057:True:=⟨⟩
theorem tw16618909756484684467:True:=⟨⟩
theorem tw14343999606766158260:True:=⟨⟩
theorem tw11128039067330576404:True:=⟨⟩
theorem tw15136850233242887438:True:=⟨⟩
theorem tw1111263606911284345:True:=⟨⟩
theorem tw916591062595846547:True:=⟨⟩
theorem tw7018323970415672034:True:=⟨⟩
theorem tw4222511593086879587:True:=⟨⟩
theorem tw13510361038845904283:True:=⟨⟩
theorem tw2214581351128497116:True:=⟨⟩
theorem tw7954074512192545945:True:=⟨⟩
theorem tw430407546983676048:True:=⟨⟩
theorem tw15499493932771899486:True:=⟨⟩
theorem tw13448033582049419322:True:=⟨⟩
theorem tw18322473403635727288:True:=⟨⟩
theorem tw13258939022015726476:True:=⟨⟩
theorem tw11126235452647923558:True:=⟨⟩
theorem tw10515724994809746482:True:=⟨⟩
theorem tw16193364487119611749:True:=⟨⟩
theorem tw13101453209156903288:True:=⟨⟩
theorem tw16700103266205983162:True:=⟨⟩
theorem tw1148625622953004833:True:=⟨⟩
theorem tw13023949505232002771:True:=⟨⟩
theorem tw916892066089585398:True:=⟨⟩
theorem tw5253665795339500904:True:=⟨⟩
theorem tw12309540157064756360:True:=⟨⟩
theorem tw10935828522154542166:True:=⟨⟩
theorem tw17113052037052540601:True:=⟨⟩
theorem tw16231039490463794110:True:=⟨⟩
theorem tw5129941491527690725:True:=⟨⟩
theorem tw4330991180929535625:True:=⟨⟩
theorem tw14680810799054715792:True:=⟨⟩
theorem tw15465583547859376084:True:=⟨⟩
theorem tw12545650446048111660:True:=⟨⟩
theorem tw12964062633142722049:True:=⟨⟩
theorem tw8954724947790862241:True:=⟨⟩
theorem tw15323061056901989689:True:=⟨⟩
theorem tw12697402775899135218:True:=⟨⟩
theorem tw13276833702047066570:True:=⟨⟩
theorem tw4865120608202669494:True:=⟨⟩
theorem tw9366186876789818649:True:=⟨⟩
theorem tw3825381680432690009:True:=⟨⟩
theorem tw6545459831842007687:True:=⟨⟩
theorem tw5562705714879443458:True:=⟨⟩
theorem tw8670592598250618684:True:=⟨⟩
theorem tw4003514286515377017:True:=⟨⟩
theorem tw8039898743254704824:True:=⟨⟩
theorem tw7405370479327515870:True:=⟨⟩
theorem tw8926073059922265167:True:=⟨⟩
theorem tw16911447347678364338:True:=⟨⟩
theorem tw10671993194109991074:True:=⟨⟩
theorem tw801188883035828325:True:=⟨⟩
theorem tw11747441341411472974:True:=⟨⟩
theorem tw1738449604571460292:True:=⟨⟩
theorem tw3048173636268286377:True:=⟨⟩
theorem tw8750641756726664098:True:=⟨⟩
theorem tw3428208774654942400:True:=⟨⟩
theorem tw11762732935092854722:True:=⟨⟩
theorem tw17543646024803572876:True:=⟨⟩
theorem tw17715228584645818311:True:=⟨⟩
theorem tw4214643438969434645:True:=⟨⟩
theorem tw1765746790642755670:True:=⟨⟩
theorem tw2147655035671245215:True:=⟨⟩
theorem tw7590242246935095584:True:=⟨⟩
theorem tw18033964682163610285:True:=⟨⟩
theorem tw5831826152446136541:True:=⟨⟩
theorem tw319490229744429039:True:=⟨⟩
theorem tw12463534575930455272:True:=⟨⟩
theorem tw10371403677947509614:True:=⟨⟩
theorem tw8016986591111299822:True:=⟨⟩
theorem tw5667191905956574498:True:=⟨⟩
theorem tw15757619958402403948:True:=⟨⟩
theorem tw9011297252748127280:True:=⟨⟩
theorem tw17507516277433102289:True:=⟨⟩
theorem tw17725567851889491901:True:=⟨⟩
theorem tw2535131229827767169:True:=⟨⟩
theorem tw15182601442485666286:True:=⟨⟩
theorem tw9902246824427894004:True:=⟨⟩
theorem tw11763958687534869680:True:=⟨⟩
theorem tw14243319542641745285:True:=⟨⟩
theorem tw13976329359730278593:True:=⟨⟩
theorem tw10193580565110878322:True:=⟨⟩
theorem tw15450133903358312512:True:=⟨⟩
theorem tw6276318231578556505:True:=⟨⟩
theorem tw7567860043142866799:True:=⟨⟩
theorem tw6471536016319253370:True:=⟨⟩
theorem tw9795494098798817151:True:=⟨⟩
theorem tw11388725880924503747:True:=⟨⟩
theorem tw15906405830009952519:True:=⟨⟩
theorem tw16041765032119523446:True:=⟨⟩
theorem tw12169248792132609375:True:=⟨⟩
theorem tw10731627585904783545:True:=⟨⟩
theorem tw2117800652203068133:True:=⟨⟩
theorem tw11660552598173695988:True:=⟨⟩
theorem tw5578676019213602690:True:=⟨⟩
theorem tw6824146438439059971:True:=⟨⟩
theorem tw3513820945434300789:True:=⟨⟩
theorem tw8116986973751701504:True:=⟨⟩
theorem tw13495492352098191164:True:=⟨⟩
theorem tw9814521365788848951:True:=⟨⟩
theorem tw15722566631808388753:True:=⟨⟩
theorem tw861740461228004733:True:=⟨⟩
theorem tw7106466396363661638:True:=⟨⟩
theorem tw12849039064130270240:True:=⟨⟩
theorem tw1134308104302756972:True:=⟨⟩
theorem tw3010439092301040486:True:=⟨⟩
theorem tw17816717856086174358:True:=⟨⟩
theorem tw11149061711742648548:True:=⟨⟩
theorem tw14036627289367018796:True:=⟨⟩
theorem tw5429477869994368367:True:=⟨⟩
theorem tw7940537527954018458:True:=⟨⟩
theorem tw2604901424036541063:True:=⟨⟩
theorem tw15487811534215124188:True:=⟨⟩
theorem tw18064312367536619883:True:=⟨⟩
theorem tw4824584372287218620:True:=⟨⟩
theorem tw9048559258887259956:True:=⟨⟩
theorem tw7884614384692140816:True:=⟨⟩
theorem tw16367165154766714319:True:=⟨⟩
theorem tw15516981214852613888:True:=⟨⟩
theorem tw2460405866545305436:True:=⟨⟩
theorem tw12551386086251720438:True:=⟨⟩
theorem tw10183426290553673610:True:=⟨⟩
theorem tw9290384812151408565:True:=⟨⟩
theorem tw15299981847786275131:True:=⟨⟩
theorem tw5943282786193848066:True:=⟨⟩
theorem tw17570233290061857690:True:=⟨⟩
theorem tw15359170853323125327:True:=⟨⟩
theorem tw13230364761691088398:True:=⟨⟩
theorem tw7574501811584800559:True:=⟨⟩
theorem tw11762900114938904890:True:=⟨⟩
theorem tw3061969403100960489:True:=⟨⟩
theorem tw9177684151223994519:True:=⟨⟩
theorem tw14810766176975304553:True:=⟨⟩
theorem tw14065372797180803292:True:=⟨⟩
theorem tw8783513367562574285:True:=⟨⟩
theorem tw5210627090501227785:True:=⟨⟩
theorem tw9024074512309037242:True:=⟨⟩
theorem tw7632206556856918147:True:=⟨⟩
theorem tw16535360979341041665:True:=⟨⟩
end Mine.hq
open PySem PySem.W PyProof.Rows
set_option maxHeartbeats 8000000 in
theorem Mine.hq:PySem.Challenge.rw_nu0236_01.Holds:=by
 w_on;o_law;k_head;(case hw=>w_witness2)
 k_fill
 intro w s₀ s₁ mg mb G Y fa o pm cd doc dV kV ho hd hcd hD hmg hg args vals as hpre hlay hrd hwl hlo
 have KX:=km_in_of Y
 have hT:=km_tabs_of Y Mine.Ey (List.mem_singleton.mpr rfl)
 have e1:Str.ofString "law"=⟨⟨[108,97,119]⟩⟩:=by decide +kernel
 have hmg1:mg (Str.ofString "law")=some (.ref fa):=hmg
 rw [e1] at hmg1
 clear ho hd hcd hD hmg
 wrow_args hpre hlay hrd hwl hlo
 exact Mine.T' Mine.Uj G (by kernel_rfl) KX hT ⟨by as_aux_lemma=>kernel_rfl,by as_aux_lemma=>kernel_rfl,by as_aux_lemma=>kernel_rfl,by as_aux_lemma=>kernel_rfl,by kernel_rfl,by as_aux_lemma=>kernel_rfl,by kernel_rfl,by kernel_rfl,by kernel_rfl,by kernel_rfl⟩ hg hmg1 (by assumption) (by assumption) (by assumption)
theorem PySem.Challenge.cw_nu0236_01_holds : PySem.Challenge.rw_nu0236_01.Holds :=
 Mine.hq
