import PyProof.Rows.All
import Wide.All
import OpenK.AllK
import Wide.FinOn
import KE.KDictOf
import KE.KIntText
import KE.KSortTup
import Lean
import PySem.Challenge.RW_pq0096_01
open Option renaming some->aa,none->ae,bind_some->c5,map_eq_some_iff->ej,bind_eq_some_iff->e8,isSome_iff_exists->fF,map->gj,getD_some->qP,map_some->sL,bind->sM,casesOn->yl,isNone_iff_eq_none->Cj,getD_none->Iq,some_or->Ir,or_none->Iu,some->W,none->N
open Bool renaming true->af,false->ah,and_eq_true->eu,false_ne_true->fe,or_eq_true->iI,not_eq_true'->sN,false_eq_true->vi,not_true->ym,false_and->Ck,and_true->Iv,not_false->Iw,true->U,false->Y
open PySem renaming wpAny_bind->ai,wpAny->aj,model->ar,Value->az,Shared->aA,wpAny_pure->aD,Addr->aR,World->aU,Str->bu,eval->bw,Around->bK,Heap->b0,call->b9,cLine->cv,Obj->cC,wpAny_holding->cU,rawInt->c6,Env->c8,Params->dg,Stmt->dj,Pos->d6,wpAny_mono->ed,Sem->eT,DictEntry->fg,SetTable->fA,sizeLine->fL,OsState->fT,pyNext->gk,codeAny->gm,wpAny_call_entry->gE,NameKind->gF,wpAny_standAt->gU,Scope->ia,starEach->ib,holding->ie,pyIter->ig,wpAny_rule->iJ,isTrue->i6,sysModules->jw,getItem->jx,wpAny_field->jy,backTo->jz,standAt->jA,Program->ki,treeTable->kj,Result->km,wpAny_setField_rec->kq,mainGlobals->lu,PyData->lx,compareOp->ly,assignEach->lz,Arguments->l8,wpAny_truthy_bool->l9,wpAny_callSpecial?_slot->ma,typeLookup->mc,wpAny_setState_of->mf,CmpOp->m9,wpAny_typeOf->nf,wpAny_newObj_type->ng,notedBy->nh,wpAny_ite_false->ni,IsEnum->nj,codeAny_builtin->nk,mem_of_lookup->og,spliced->oh,typeOf->oi,wpAny_specialOf->pF,letOwnedTupleGo->pG,assign->pH,numAt->pI,setField->pJ,wpAny_isInstance->qQ,wpAny_dictEntries->qR,wpAny_load->qS,bindName->qT,compPost->qU,cellsFrom->qV,wpAny_attempt->qW,plainId_quiet->qX,relayAll->qY,ElemsOf->qZ,wpAny_notOrdered_dict->sO,call_meets->sP,getMethod->sQ,wpAny_askSetting->sR,IsPart->sS,builtinsNs->sT,typeLookup_type->sU,builtinLookup_eq_fast->sV,sizeLine_eq->sW,FuncData->vj,dictGet->vk,Comprehension->vl,wpAny_items_nil->vm,wpAny_items_cons->vn,wpAny_bindName->vp,backToKw->vq,keywordEach->vr,assignAll->vt,collect->vu,wpAny_call->vv,isInstance->vw,setAdd->vx,seqItems?->vy,pickOrder->vz,getAttr?->vA,Expr->yn,eqIsQuiet->yo,wpAny_sequenceKey->yp,wpAny_letGo->yq,sliceRange->yr,constantsAlone->yt,wpAny_isTrue_BoolOp->yu,wpAny_release->yv,wpAny_pyIter_tuple->yw,assignInOrder->yx,callWith->yy,wpAny_Call_Name_kw->yz,swappedStores->yA,evalThenUse->yB,wpAny_newList->yC,wpAny_of_eq->yD,getMethod_builtin->yE,intItems->yF,wpAny_setField->yG,wpAny_newTuple->yH,evalPairs->yI,pairTrees->yJ,updateSeq->yK,wpAny_updateSeq->yL,isSubtype_type->yM,wpAny_dictEpoch->yN,wpAny_fieldsOf->yO,richCompare->yP,ofAClassStatement->yQ,carriedByValue->yR,getattributeRaised->yS,beq_builtin_none->Cm,wpAny_mkInt->Cn,wpAny_tupleItemsOf->Cp,eqIsQuiet_byValue->Cq,wpAny_seqItems->Cr,intKind->Cs,strKind->Ct,slot_dict_contains->Cu,slot_dict_getitem->Cv,wpAny_updateDictKeys->Cw,isNot_none->Cx,subscripted->Cy,wpAny_operating->Cz,typeIs_str->CA,wpAny_Slice->CB,wpAny_UnaryOp->CC,wpAny_allTrue_And_cons->CD,wpAny_allTrue_Or_cons->CE,compareChain->CF,wpAny_pyIter_list->CG,foldedSetIterable->CH,codeAny_of_tree->CI,wpAny_execs_nil->CJ,comprehension->CK,firstIterPos->CL,wpAny_pyIter_slot->CM,wpAny_typeNameOfWhole_keyiter->CN,wpAny_typeNameOfWhole_itemiter->CO,wpAny_isOneOf_itemiter->CP,wpAny_storeSet_of->CQ,hashByValue->CR,searchCouldBeSeen->CT,setsByText->CU,wpAny_setEntries_of->CV,isSubtype_tuple_tuple->Iy,concat_meets->Iz,noFill_tuple_add->IA,seq_tuple_add->IB,wpAny_letTemporaryGo->IC,wpAny_Constant_int->ID,wpAny_Constant_str->IE,markedBehindIn_of_false->IF,codeAny_call_builtin->IG,wpAny_isOneOf_keyiter->IH,sub_AttributeError->II,wpAny->V,model->Z,Value->K,wpAny_bind->J,Shared->H
open PySem.Value renaming ref->ao,none->aN,type->aZ,int->bL,builtin->bM,bool->eh,str->fU,ref->M
open Nat renaming le_trans->aC,lt_of_lt_of_le->bg,le_add_left->br,le_of_eq->bC,le_refl->bG,lt_of_le_of_lt->bY,lt_irrefl->cq,zero_le->cQ,succ_pos->dm,lt_succ_self->dP,casesOn->dS,succ_le_succ->ek,le_add_right->ew,lt_of_lt_of_eq->ey,le_of_lt->eL,ne_of_lt->eU,lt_trans->e9,add_le_add_left->fh,le_of_not_lt->fi,add_right_comm->gG,le_succ_of_le->gV,le_succ->gW,zero_add->iK,le_of_lt_succ->iL,not_lt_zero->i7,not_lt->i8,add_le_add->jB,sub_self->jC,lt_succ_of_lt->jQ,max_le->jR,mul_le_mul_left->kr,le_antisymm->ku,ne_of_gt->kv,add_comm->ky,add_le_add_right->kS,succ_add_eq_add_succ->kT,not_succ_le_zero->lA,le_of_succ_le_succ->lB,le_of_succ_le->mh,le_max_left->nr,le_max_right->nt,not_le_of_lt->nu,sub_le->oj,beq->om,lt_of_le_of_ne->oo,succ_ne_zero->pK,pow_le_pow_right->pL,add_assoc->sX,min_le_left->sY,lt_of_succ_lt_succ->sZ,sub_lt->s7,one_pos->s8,pow_succ->s9,zero_max->ta,add_sub_of_le->vB,ne_of_beq_eq_false->vC,min_le_right->vD,mul_two->vE,lt_or_eq_of_le->vG,exists_eq_add_of_le'->vH,min_eq_left->yT,le_of_not_le->yU,lt_succ_of_le->yV,zero_lt_of_lt->yW,le_sub_one_of_lt->yX,max_eq_right->yY,lt_or_ge->yZ,mod_lt->y0,add_zero->y1,succ_mul->y2,noConfusion->y3,add_lt_add_right->CW,exists_eq_add_of_lt->CX,add_sub_cancel_left->CY,not_succ_le_self->CZ,le_of_add_le_add_left->C0,lt_of_succ_lt->C1,lt_succ_iff_lt_or_eq->C2,not_lt_of_le->C3,max_zero->C4,add_lt_add_left->C5,mul_le_mul_right->C6,mul_assoc->C7,mul_comm->C8,lt_add_right->C9,lt_add_of_pos_right->IJ,add_left_cancel->IK,min_eq_right->IL,succ_ne_self->IM,le_div_iff_mul_le->IP,lt_trichotomy->IQ,succ_lt_succ_iff->IS,mul_le_mul->IT,le_trans->P
open Option.some renaming inj->aH,injEq->tc,inj->L
open Decidable renaming decide->aK,decide->I
open Or renaming inr->aW,inl->aY
open PySem.Str renaming ofString->a0,empty->Dc,ofString_eq_toList->IU
open List renaming mem_cons_self->a7,not_mem_nil->bc,mem_cons_of_mem->bq,mem_cons->bB,range->bE,casesOn->bH,mem_singleton->bI,length_map->bN,all_eq_true->bQ,mem_map->b3,getElem?_eq_some_iff->cD,length_append->cF,mem_of_getElem?->cN,getElem?_eq_getElem->dn,getElem?_map->dy,map_map->dK,mem_append_left->dT,mem_append->d9,map_cons->ea,append_nil->eM,getElem?_append_left->fB,length_cons->fC,mem_append_right->fG,mem_range->fM,map_congr_left->fN,map_append->gH,length_range->gI,mem_map_of_mem->ij,append_assoc->iM,nodup_cons->i9,getD_eq_getElem?_getD->ja,nil_append->kz,isEmpty_iff->kA,nodup_nil->kU,cons_ne_nil->lC,getElem?_of_mem->lD,length_set->mj,length_eq_zero_iff->ml,getElem?_append_right->mn,getElem?_set_ne->mq,length_nil->mr,forIn_cons->ny,filterMap_cons->nz,nodup_append->oq,size_toArray->ot,pairwise_cons->ou,mem_filter->ow,lookup_cons->pM,map_take->pN,length_reverse->pO,take_length->pP,mem_flatMap->pQ,foldl_cons->pR,getElem?_range->pS,take_append_drop->q5,reverse_cons->q6,findIdx?_cons->rg,getElem?_zip_eq_some->rh,lt_irrefl->rj,forIn_nil->td,getElem_mem->te,drop_zero->tf,any_eq_true->ti,length->tj,map_drop->vI,replicate->vJ,take_of_length_le->vK,length_drop->vL,length_take->vM,length_singleton->vN,drop_eq_getElem_cons->vO,pairwise_iff_getElem->vP,length_filter_le->vQ,flatMap_cons->vR,flatten->y4,cons->y5,drop_nil->y6,ext_getElem?->y7,getElem?_toArray->y8,mem_filterMap->y9,zip_cons_cons->za,lt_trans->zb,getElem?_drop->zd,findIdx?->ze,mem_of_mem_take->zf,forall_mem_cons->zg,filter_cons->zh,concat_eq_append->zi,cons_lt_cons_iff->zj,filter_append->zk,set_append_right->zl,lookup_cons_self->Dd,findIdx?_eq_some_iff_getElem->De,getElem?_inj->Df,map_nil->Dg,getElem?_cons_succ->Dh,any_cons->Di,filterMap_map->Dj,pairwise_append->Dk,pairwise_map->Dl,drop_length->Dm,getElem?_set_self->Dn,zip_nil_right->Dp,getElem?_take_of_lt->Dq,map_eq_nil_iff->Dr,take_succ->Ds,getElem?_eq_none->Dt,not_lt->Du,countP_cons_of_pos->Dv,length_take_of_le->Dw,nodup_range->Dx,set_append->Dy,map_id'->Dz,append_of_mem->IV,take_nil->IW,modify_nil->IX,findIdx?_eq_none_iff->IY,getElem?_modify->IZ,push_toArray->I6,length_modify->I7,length_eraseIdx->I8,eraseIdx_eq_take_drop_succ->I9,find?_cons->Ja,getElem?_set->Jb,length_filterMap_le->Jc,take_take->Jd,getElem_range->Je,mem_reverse->Jf,map_fst_zip->Jg,filter_eq_nil_iff->Jh,filterMap->Ji,getElem_map->Jj,getElem_inj->Jk,take_left->Jl,zip_nil_left->Jm,countP_cons_of_neg->Jn,countP_mono_left->Jo,mem_iff_getElem->Jp,foldl_append->Jq,filterMap_eq_map->Jr,getElem?_take->Js,contains_iff_mem->Jt,flatMap_map->Ju,sum_cons->Jv,map_singleton->Jw,pairwise_flatMap->Jx,append_inj'->Jy,set_append_left->Jz,range_succ->JA,take_left'->JB,getElem?_concat_length->JC,range'_succ->JD,map_inj_left->JE,range_eq_range'->JF,filter_sublist->JG,map_eq_singleton_iff->JH
open Pure renaming pure->bx
open PyProof.Rows renaming arrOf->bZ,seqObj->eF,wpS_bind->eV,SortSt->fj,wpS_pure->gX,wpS->jb,pairsOf->kW,Keyed->lE,SortKind->rm,wpS_forRange->tn,wpS_get->tq,sortedHeap->tu,pairsOf_size->tv,mirror->vS,pendingOf->vT,wpS_mono->vU,failedOf->zm,wpS_modify->zo,pairsOf_toList->zp,mem_zip_self->DA,listUpdate_at->DB,get?_update_seq->DC,seqEpoch_at->DD,slot_tuple_getitem->JI
open Prod.mk renaming inj->cO,injEq->vV
open PySem.Operator renaming Add->cV,Mod->nA,Sub->ox
open Ordering renaming lt->cY,eq->lF,noConfusion->oy
open PySem.CmpOp renaming Eq->dh,NotIn->gY,NotEq->gZ,Lt->iO
open PySem.Heap renaming lt_size->dt,get?_push_of_some->dF,get?_push_size->dQ,size_push->eP,SameBut->gp,get?_update_self->oz,ExtBut->tw,get?_update_other->vW,size_update->zq,get?_eq_some->JJ
open PySem.SetTable renaming below->dz,insertAt->jD,has->rq,grown->rr,toList_insertAt->vX,Probe->vY,bits->zt,fits->zu,leap->JK,runEnd->JL
open Exists renaming elim->dM
open PySem.Data renaming fields->dU,dict->mu
open PySem.W renaming dictOf->eb,instObj->ik,emptyDict->kB,boot_heap->nB,topFrame->nC,findIn->nD,SharedT->pT,segRunT->rz,piecesOf->rA,boot_drawn->vZ,boot_toks->v7,piece_app->v8,segRun_of->v9,plainGet_of->DE,callWith_of->DF
open PySem.NameKind renaming free->eW,cell->fH,noConfusion->lH,globalImplicit->DG
open PySem.Flow renaming next->fD,ret->il
open PySem.Expr renaming Name->fE,ListComp->fV,Call->jc,casesOn->jE,Constant->mv,Tuple->pU,Subscript->rC,Attribute->rE,UnaryOp->rF,Slice->wb,Compare->zv,BoolOp->zw,FormattedValue->zx,JoinedStr->DH
open Except renaming ok->fO,error->jS
open Eq renaming symm->gq,trans->iP
open Nat.succ renaming inj->gs
open PySem.PyData renaming strOk->gJ,bool->kX,keyHash->pV,depthAll->pW,eqv->pX,eqvAll->tx,list->wc,depth->zy,canLayAll0->JM
open Max renaming max->hA
open PySem.Code renaming body->iq,builtin->kC,compLoop->oA,compStart->zz
open PySem.Heap.SameBut renaming update->iu,refl->zA
open Prod renaming ext->iQ
open ForInStep renaming yield->iR,done->tA
open PUnit renaming unit->iS
open Int renaming ofNat_lt->jd,natCast_nonneg->je,not_lt->nE,lt_of_le_of_lt->oC,compare_eq_lt->oD,ofNat_le->pY,toNat_of_nonneg->pZ,le_refl->p0,toNat_natCast->rG,lt_of_lt_of_le->tB,le_trans->tC,self_le_toNat->we,lt_trans->zB,sub_add_cancel->zD,toNat_lt->zE,ne_of_gt->DI,le_of_lt->DJ,add_sub_cancel->DK,ediv_one->DL,emod_nonneg->DM,emod_lt_of_pos->DN,natCast_inj->JN
open Array renaming getElem?_toList->jf,length_toList->jT,toList_inj->p5,getElem?_eq_some_iff->rH,toList_push->tD,getD->tF,size_push->wg,forIn_toList->zF,getElem?_eq_none->zG,perm_iff_toList_perm->zH,mem_toList_iff->DO,eraseIdxIfInBounds->DP,toList_eraseIdx->DQ,any_toList->DR,size_map->DS,empty_append->JO,getElem_of_mem->JP,isEmpty_iff_size_eq_zero->JQ,size_append->JR,getElem_mem->JS
open PySem.Obj renaming mapSeq->jF,data_mapFields->zI,putSet->zJ,isFreed_of_fields->JT,cls_mapFields->JU
open List.cons renaming inj->jG,injEq->oE
open Inhabited renaming default->jU
open PySem.SetTable.Slot renaming empty->jV,live->kE,noConfusion->tG
open Ne renaming symm->kY
open ForIn renaming forIn->lJ
open PySem.ScopeKind renaming function->lK
open PySem.Builtin renaming bitAnd->mw,bitOr->p6
open Iff renaming rfl->nF
open PySem.Fin renaming done->nG
open PySem.W.Fast renaming te14364793385576792824->oF
open List.Perm renaming refl->oG,swap->wh
open Function renaming comp->oH
open PySem.F renaming called_set->p7,slot_list_pop->zK,slot_enumerate_next->zL,slot_dict_keyiterator_next->DT,slot_dict_itemiterator_next->DU,slot_list_getattribute->DV,slot_tuple_getattribute->DW,slot_tuple_hash->JV,slot_list_index->JW,entry_list_pop->JX,slot_list_extend->JY,slot_dict_get->JZ,slot_dict_setdefault->J0,slot_dict_pop->J1,slot_tuple_add->J2,entry_tuple_add->J3,args_tuple_add_2->J4,slot_str_getitem->J5,slot_tuple_getitem->J6,slot_list_getitem->J7,plainAttrs_dict->J8,type_list_pop->J9,args_object_init_2->Ka,slot_tuple_iterator_next->Kb,entry_enumerate_next->Kc,args_enumerate_next_1->Kd,entry_extend_loop->Ke,plain_extend_loop->Kf,slot_dict_iter->Kg,slot_dict_items_iter->Kh,slot_set_iter->Ki,slot_dict_items->Kj
open PySem.W.WData renaming int->p8
open PySem.IsPart renaming none->rI
open PySem.SetTable.probe renaming go->rJ
open Ord renaming compare->tH
open PySem.Txt renaming slice->tI
open PySem.UnaryOp renaming USub->tJ
open PySem.Expr.Tuple renaming elim->tK
open PySem.SetTable.below renaming go->tL
open PySem.Env renaming kindOf->wi
open PySem.Builtin.Slice renaming slicePlaces->wj,sliceAdjust->zM,sliceApplied->Kk
open ToString renaming toString->wk
open PySem.Shared renaming TypeIs->wm
open List.Pairwise renaming nil->wo,of_map->DX,map->Kl,imp->Km,filterMap->Ko,filter->Kp
open PySem.Builtin.List renaming listExtendWith->wq,listLengthHint->DY
open PySem.SetTable.Met renaming candidate->wu
open PySem.Builtin.Tuple renaming tupleItemsOf->zN,tupleHashOf->Kq,tupleExact->Kr,tupleCompareSizes->Ks
open PySem.Expr.Name renaming elim->zO
open PySem.Expr.ListComp renaming elim->zP
open Char renaming toNat->zQ
open PySem.Sem renaming wp->zR
open PySem.Builtin.Range renaming rangeSize->zS,small->Kt,rangeFitsLong->Ku
open LawfulMonad renaming pure_bind->zT
open Classical renaming choose_spec->zU
open PySem.SeqAt renaming eqBoolOverData->DZ,EqAt->D2
open PySem.Expr.Constant renaming elim->D3
open PySem.Expr.Attribute renaming elim->D4
open PySem.Expr.Subscript renaming elim->D5
open PySem.Expr.Slice renaming elim->D6
open PySem.Expr.BinOp renaming elim->D7
open PySem.Expr.UnaryOp renaming elim->D8
open PySem.Expr.Compare renaming elim->D9
open PySem.Expr.BoolOp renaming elim->Ea
open PySem.Expr.IfExp renaming elim->Eb
open PySem.Expr.List renaming elim->Ec
open PySem.Expr.Dict renaming elim->Ed
open PySem.Expr.JoinedStr renaming elim->Ee
open PySem.Expr.FormattedValue renaming elim->Ef
open PySem.Expr.Call renaming elim->Eg
open PySem.Stmt.Assign renaming elim->Eh
open PySem.Stmt.Expr renaming elim->Ei
open PySem.Stmt.Return renaming elim->Ej
open PySem.Stmt.If renaming elim->Ek
open PySem.Stmt.While renaming elim->El
open PySem.Stmt.For renaming elim->Em
open PySem.Walks renaming list->En
open And renaming intro->Eo
open PySem.W.Looks renaming of_pure->Ep
open PySem.AutoSeq1 renaming wpAny_loadPart'->Er
open PySem.Builtin.Dict renaming showsAll->Es,pairItems->Kv
open PySem.pickOrder renaming go->Et
open PySem.P renaming neg_int->Kw
open PySem.Str.mk renaming injEq->Kx
open PySem.Calls renaming Name_function_global->Kz
open PySem.Value.type renaming inj->KA
open Array.Perm renaming refl->KC
open PyProof.Rows.F renaming entry_set_update_loop->KG
open PySem.Comprehension renaming casesOn->Rh
open PySem.Builtin.SmallTypes renaming nextOf->Ri,calledThroughType->Rj
open PySem.Builtin.Dict_items renaming pairFromOwner->Rk,ownedTupleIsFree->Rl
open Std.LawfulEqOrd renaming compare_eq_iff_eq->Rm
open PySem.Builtin.Frozenset renaming newClass->Rn,updateFrom->Ro
open PySem.SetTable.Slot.live renaming inj->Rp
open PySem.SetTable.Met.empty renaming inj->Rq
set_option Elab.async false
set_option backward.match.sparseCases false
set_option bootstrap.genMatcherCode false
set_option genSizeOf false
set_option genInjectivity false
set_option maxHeartbeats 1000000
set_option maxRecDepth 100000
set_option linter.all false
open PySem PySem.W PySem.Calls PyProof.Rows
noncomputable section
namespace Pq
@[elab_as_elim] theorem oI{a b:c}{P:c->Prop}(e:a=b)(h:P b):P a:=e▸h
@[elab_as_elim] theorem iw{a b:c}{P:c->Prop}(e:b=a)(h:P b):P a:=e▸h
section
variable{α β:Type}{P:Prop}
theorem bU(h:o.bind f=W b)(k:∀a,o=W a->f a=W b->P):P:=(e8.mp h).elim λa h=>k a h.1 h.2
theorem eG(h:o.map f=W b)(k:∀a,o=W a->f a=b->P):P:=(ej.mp h).elim λa h=>k a h.1 h.2
theorem fI[Decidable c](h:(if c then a else N)=W b)(k:c->a=W b->P):P:=by
 by_cases d:c
 ·exact k d ((if_pos d).symm.trans h)
 ·exact nomatch (if_neg d).symm.trans h
theorem fW{l:List α}(h:b∈l.map f)(k:∀a,a∈l->f a=b->P):P:=(b3.mp h).elim λa h=>k a h.1 h.2
theorem jg{l:List α}{Q:β->Prop}(h:b∈l.map f)(k:∀a,a∈l->Q (f a)):Q b:=(b3.mp h).elim λa h=>h.2▸k a h.1
end
section
variable{α β γ:Sort _}{P:Prop}
theorem aV{p q:α->Prop}(h:∃a,p a/\q a)(k:∀a,p a->q a->P):P:=h.elim λa h=>k a h.1 h.2
theorem eA{p q r:α->Prop}(h:∃a,p a/\q a/\r a)(k:∀a,p a->q a->r a->P):P:=h.elim λa h=>k a h.1 h.2.1 h.2.2
theorem wx{p q r s:α->Prop}(h:∃a,p a/\q a/\r a/\s a)(k:∀a,p a->q a->r a->s a->P):P:=h.elim λa h=>k a h.1 h.2.1 h.2.2.1 h.2.2.2
theorem jW{p q:α->β->Prop}(h:∃a b,p a b/\q a b)(k:∀a b,p a b->q a b->P):P:=h.elim λa h=>h.elim λb h=>k a b h.1 h.2
theorem eX{p q r:α->β->Prop}(h:∃a b,p a b/\q a b/\r a b)(k:∀a b,p a b->q a b->r a b->P):P:=h.elim λa h=>h.elim λb h=>k a b h.1 h.2.1 h.2.2
theorem ix{p q r s:α->β->Prop}(h:∃a b,p a b/\q a b/\r a b/\s a b)(k:∀a b,p a b->q a b->r a b->s a b->P):P:=h.elim λa h=>h.elim λb h=>k a b h.1 h.2.1 h.2.2.1 h.2.2.2
theorem Rr{p q:α->β->γ->Prop}(h:∃a b c,p a b c/\q a b c)(k:∀a b c,p a b c->q a b c->P):P:=h.elim λa h=>h.elim λb h=>h.elim λc h=>k a b c h.1 h.2
theorem Rt{p q r:α->β->γ->Prop}(h:∃a b c,p a b c/\q a b c/\r a b c)(k:∀a b c,p a b c->q a b c->r a b c->P):P:=h.elim λa h=>h.elim λb h=>h.elim λc h=>k a b c h.1 h.2.1 h.2.2
theorem kZ{p q r s:α->β->γ->Prop}(h:∃a b c,p a b c/\q a b c/\r a b c/\s a b c)(k:∀a b c,p a b c->q a b c->r a b c->s a b c->P):P:=h.elim λa h=>h.elim λb h=>h.elim λc h=>k a b c h.1 h.2.1 h.2.2.1 h.2.2.2
end
theorem oJ{K:List b}:∀{S:List b},K.Nodup->(∀x∈K,x∈S)->K.length<=S.length:=by
 induction K with
 |nil=>exactλz z=>cQ _
 |cons a r f=>
  intro S c h
  have c:=i9.mp c
  refine(IV (h a a7)).elim λs g=>g.elim λt q=>?_
  rw[q,cF]
  refine ek (P (f c.2 (S:=s++t) λx d=>d9.mpr ?_) (bC cF))
  have:=h x (bq _ d)
  rw[q]at this
  exact(d9.mp this).imp_right λu=>(bB.mp u).resolve_left λe=>c.1 (Eq.subst (motive:=(· ∈r)) e d)
theorem la{a b c d:Nat}(h:a+b<c)(k:d<=b):a+d<c:=bY (fh k a) h
theorem lb{a n b c d:Nat}(h:a+n+b<c)(k:d<=b):a+d<c:=bY (jB (ew a n) k) h
theorem lc(h:a+8*hA b c+k<d):a+8*b+k<d:=bY (kS (fh (kr 8 (nr b c)) a) k) h
theorem ld(h:a+8*hA b c+k<d):a+8*c+k<d:=bY (kS (fh (kr 8 (nt b c)) a) k) h
theorem u8(h:a+(b+56)<c)(k:d<=7):a+8*d<c:=la h (P (kr 8 k) (br 56 b))
theorem zV(h:a+(b+57)<c)(k:d<=7):a+1+8*d<c:=bY (fh (kr 8 k) (a+1)) (show a+57<c from la h (br 57 b))
theorem u1(h:a+(b+7)<c)(k:d<=7):a+d<c:=la h (P k (br 7 b))
theorem KH(h:a+8*b+k<c):a+b<c:=bY (P (fh (Nat.le_mul_of_pos_left b (dm 7)) a) (ew ..)) h
theorem lm(h:a+8*(n+1)+k<c):a+1+8*n+k<c:=bY (kS (P (bC (gG a 1 (8*n))) (fh (ew (8*n+1) 7) a)) k) h
theorem tM(h:i+(k+1)=n):i<n:=ey (IJ (dm k)) h
theorem zW(h:i+(k+1)=n):i+1+k=n:=(kT i k).trans h
theorem KI(h:i+k=n+1)(l:i<n):n-i<k:=bC (IK (n:=i) ((congrArg (· +1) (vB (eL l))).trans h.symm))
theorem KJ(l:i<n):i+1+(n-i)=n+1:=(Nat.succ_add i _).trans (congrArg (· +1) (vB (eL l)))
theorem Eu{P:Prop}(h:0=n+1):P:=absurd h.symm (pK n)
theorem tN{P:Prop}(h:n+1=0):P:=absurd h (pK n)
theorem KL{a:b}{l:List b}{P:Prop}(h:a::l=[]):P:=absurd h (lC a l)
theorem KN{a:b}{l:List b}{P:Prop}(h:[]=a::l):P:=absurd h.symm (lC a l)
theorem lookup_mem{a b:Type}[BEq a][LawfulBEq a]{l:List (a×b)}{x:a}{p:b}(c:(l.map (·.1)).Nodup)(h:(x,p)∈l):l.lookup x=W p:=by
 induction l with
 |nil=>exact absurd h bc
 |cons e r f=>
  rcases bB.mp h with rfl|d
  ·exact Dd
  ·rw[pM,show(x==e.1)=Y from beq_eq_false_iff_ne.mpr λq=>(i9.mp c).1 (b3.mpr ⟨_,d,q⟩)]
   exact f (i9.mp c).2 d
theorem jh{a b:Nat}(h:Nat.ble (a+1) b=U):a<b:=Nat.le_of_ble_eq_true h
theorem a3{a b c P:Prop}(h:a/\b/\c)(k:a->b->c->P):P:=k h.1 h.2.1 h.2.2
theorem a4{a b c d P:Prop}(h:a/\b/\c/\d)(k:a->b->c->d->P):P:=k h.1 h.2.1 h.2.2.1 h.2.2.2
end Pq
namespace Pq
theorem cR{P:Prop}(h:a/\b)(k:a->b->P):P:=by
 obtain⟨c,d⟩:=h
 exact k c d
theorem Ew{P:Prop}(h:a/\b/\c)(k:a->b->c->P):P:=by
 obtain⟨d,e,f⟩:=h
 exact k d e f
theorem Ru{P:Prop}(h:a/\b/\c/\d)(k:a->b->c->d->P):P:=by
 obtain⟨e,f,g,i⟩:=h
 exact k e f g i
theorem Rv{P:Prop}(h:a/\b/\c/\d/\e)(k:a->b->c->d->e->P):P:=by
 obtain⟨f,g,i,j,l⟩:=h
 exact k f g i j l
theorem Rw{P:Prop}(h:a/\b/\c/\d/\e/\f/\g)(k:a->b->c->d->e->f->g->P):P:=by
 obtain⟨i,j,l,m,n,o,p⟩:=h
 exact k i j l m n o p
@[elab_as_elim] theorem zX{f:X}{P:X->Prop}(x:X)(h:x=f/\a)(k:a->P f):P x:=by
 obtain⟨rfl,b⟩:=h
 exact k b
@[elab_as_elim] theorem zY{f:X}{P:X->Prop}(x:X)(h:f=x/\a)(k:a->P f):P x:=by
 obtain⟨rfl,b⟩:=h
 exact k b
theorem bR{c d:b->Prop}{P:Prop}(h:∃a,c a/\d a)(k:∀a,c a->d a->P):P:=by
 obtain⟨a,e,f⟩:=h
 exact k a e f
theorem k0{c d e:b->Prop}{P:Prop}(h:∃a,c a/\d a/\e a)(k:∀a,c a->d a->e a->P):P:=by
 obtain⟨a,f,g,i⟩:=h
 exact k a f g i
theorem zZ{c d e f:b->Prop}{P:Prop}(h:∃a,c a/\d a/\e a/\f a)(k:∀a,c a->d a->e a->f a->P):P:=by
 obtain⟨a,g,i,j,l⟩:=h
 exact k a g i j l
theorem wy{c d e f g:b->Prop}{P:Prop}(h:∃a,c a/\d a/\e a/\f a/\g a)(k:∀a,c a->d a->e a->f a->g a->P):P:=by
 obtain⟨a,i,j,l,m,n⟩:=h
 exact k a i j l m n
@[elab_as_elim] theorem gu{f:b->X}{P:X->Prop}(x:X)(h:∃a,x=f a)(k:∀a,P (f a)):P x:=by
 obtain⟨a,rfl⟩:=h
 exact k a
@[elab_as_elim] theorem Rx{f:b->X}{P:X->Prop}(x:X)(h:∃a,f a=x)(k:∀a,P (f a)):P x:=by
 obtain⟨a,rfl⟩:=h
 exact k a
@[elab_as_elim] theorem ee{A:Sort _}{X:Sort _}{f:A->X}{b:A->Prop}{P:X->Prop}(x:X)(h:∃a,x=f a/\b a)(k:∀a,b a->P (f a)):P x:=by
 obtain⟨a,rfl,c⟩:=h
 exact k a c
@[elab_as_elim] theorem rK{f:b->X}{c:b->Prop}{P:X->Prop}(x:X)(h:∃a,f a=x/\c a)(k:∀a,c a->P (f a)):P x:=by
 obtain⟨a,rfl,d⟩:=h
 exact k a d
@[elab_as_elim] theorem Ry{f:b->X}{c d:b->Prop}{P:X->Prop}(x:X)(h:∃a,x=f a/\c a/\d a)(k:∀a,c a->d a->P (f a)):P x:=by
 obtain⟨a,rfl,e,g⟩:=h
 exact k a e g
@[elab_as_elim] theorem tO{f:b->X}{c d e:b->Prop}{P:X->Prop}(x:X)(h:∃a,x=f a/\c a/\d a/\e a)(k:∀a,c a->d a->e a->P (f a)):P x:=by
 obtain⟨a,rfl,g,i,j⟩:=h
 exact k a g i j
@[elab_as_elim] theorem z0{A:Sort _}{X:Sort _}{f:A->X}{b:A->Prop}{P:X->Prop}(x:X)(h:∃a,b a/\x=f a)(k:∀a,b a->P (f a)):P x:=by
 obtain⟨a,c,rfl⟩:=h
 exact k a c
@[elab_as_elim] theorem ct{f:b->X}{c:b->Prop}{P:X->Prop}(x:X)(h:∃a,c a/\f a=x)(k:∀a,c a->P (f a)):P x:=by
 obtain⟨a,d,rfl⟩:=h
 exact k a d
@[elab_as_elim] theorem KO{f:b->X}{c d e:b->Prop}{P:X->Prop}(x:X)(h:∃a,c a/\x=f a/\d a/\e a)(k:∀a,c a->d a->e a->P (f a)):P x:=by
 obtain⟨a,g,rfl,i,j⟩:=h
 exact k a g i j
@[elab_as_elim] theorem KQ{f:b->X}{c d:b->Prop}{P:X->Prop}(x:X)(h:∃a,c a/\d a/\x=f a)(k:∀a,c a->d a->P (f a)):P x:=by
 obtain⟨a,e,g,rfl⟩:=h
 exact k a e g
theorem p9{e:d->c->Prop}{P:Prop}(h:∃a b,e a b)(k:∀a b,e a b->P):P:=by
 obtain⟨a,b,f⟩:=h
 exact k a b f
theorem nH{e f:d->c->Prop}{P:Prop}(h:∃a b,e a b/\f a b)(k:∀a b,e a b->f a b->P):P:=by
 obtain⟨a,b,g,i⟩:=h
 exact k a b g i
theorem oK{e f g:d->c->Prop}{P:Prop}(h:∃a b,e a b/\f a b/\g a b)(k:∀a b,e a b->f a b->g a b->P):P:=by
 obtain⟨a,b,i,j,l⟩:=h
 exact k a b i j l
theorem tP{e f g i:d->c->Prop}{P:Prop}(h:∃a b,e a b/\f a b/\g a b/\i a b)(k:∀a b,e a b->f a b->g a b->i a b->P):P:=by
 obtain⟨a,b,j,l,m,n⟩:=h
 exact k a b j l m n
theorem nI{e f g i j:d->c->Prop}{P:Prop}(h:∃a b,e a b/\f a b/\g a b/\i a b/\j a b)(k:∀a b,e a b->f a b->g a b->i a b->j a b->P):P:=by
 obtain⟨a,b,l,m,n,o,p⟩:=h
 exact k a b l m n o p
@[elab_as_elim] theorem mx{f:d->c->X}{e:d->c->Prop}{P:X->Prop}(x:X)(h:∃a b,x=f a b/\e a b)(k:∀a b,e a b->P (f a b)):P x:=by
 obtain⟨a,b,rfl,g⟩:=h
 exact k a b g
@[elab_as_elim] theorem my{f:d->c->X}{e g:d->c->Prop}{P:X->Prop}(x:X)(h:∃a b,x=f a b/\e a b/\g a b)(k:∀a b,e a b->g a b->P (f a b)):P x:=by
 obtain⟨a,b,rfl,i,j⟩:=h
 exact k a b i j
@[elab_as_elim] theorem Rz{f:d->c->X}{e g i:d->c->Prop}{P:X->Prop}(x:X)(h:∃a b,x=f a b/\e a b/\g a b/\i a b)(k:∀a b,e a b->g a b->i a b->P (f a b)):P x:=by
 obtain⟨a,b,rfl,j,l,m⟩:=h
 exact k a b j l m
@[elab_as_elim] theorem RB{f:d->c->X}{e g i:d->c->Prop}{P:X->Prop}(x:X)(h:∃a b,e a b/\g a b/\i a b/\x=f a b)(k:∀a b,e a b->g a b->i a b->P (f a b)):P x:=by
 obtain⟨a,b,j,l,m,rfl⟩:=h
 exact k a b j l m
theorem Ex{f:e->d->C->Prop}{P:Prop}(h:∃a b c,f a b c)(k:∀a b c,f a b c->P):P:=by
 obtain⟨a,b,c,g⟩:=h
 exact k a b c g
theorem wz{f g:e->d->C->Prop}{P:Prop}(h:∃a b c,f a b c/\g a b c)(k:∀a b c,f a b c->g a b c->P):P:=by
 obtain⟨a,b,c,i,j⟩:=h
 exact k a b c i j
theorem oL{f g i:e->d->C->Prop}{P:Prop}(h:∃a b c,f a b c/\g a b c/\i a b c)(k:∀a b c,f a b c->g a b c->i a b c->P):P:=by
 obtain⟨a,b,c,j,l,m⟩:=h
 exact k a b c j l m
theorem mz{f g i j:e->d->C->Prop}{P:Prop}(h:∃a b c,f a b c/\g a b c/\i a b c/\j a b c)(k:∀a b c,f a b c->g a b c->i a b c->j a b c->P):P:=by
 obtain⟨a,b,c,l,m,n,o⟩:=h
 exact k a b c l m n o
theorem k4{f g i j l:e->d->C->Prop}{P:Prop}(h:∃a b c,f a b c/\g a b c/\i a b c/\j a b c/\l a b c)(k:∀a b c,f a b c->g a b c->i a b c->j a b c->l a b c->P):P:=by
 obtain⟨a,b,c,m,n,o,p,q⟩:=h
 exact k a b c m n o p q
theorem z2{f g i j l m:e->d->C->Prop}{P:Prop}(h:∃a b c,f a b c/\g a b c/\i a b c/\j a b c/\l a b c/\m a b c)(k:∀a b c,f a b c->g a b c->i a b c->j a b c->l a b c->m a b c->P):P:=by
 obtain⟨a,b,c,n,o,p,q,r,s⟩:=h
 exact k a b c n o p q r s
@[elab_as_elim] theorem Ey{f:e->d->C->X}{g:e->d->C->Prop}{P:X->Prop}(x:X)(h:∃a b c,x=f a b c/\g a b c)(k:∀a b c,g a b c->P (f a b c)):P x:=by
 obtain⟨a,b,c,rfl,i⟩:=h
 exact k a b c i
@[elab_as_elim] theorem Ez{f:e->d->C->X}{g i:e->d->C->Prop}{P:X->Prop}(x:X)(h:∃a b c,x=f a b c/\g a b c/\i a b c)(k:∀a b c,g a b c->i a b c->P (f a b c)):P x:=by
 obtain⟨a,b,c,rfl,j,l⟩:=h
 exact k a b c j l
@[elab_as_elim] theorem wA{f:e->d->C->X}{g i j:e->d->C->Prop}{P:X->Prop}(x:X)(h:∃a b c,x=f a b c/\g a b c/\i a b c/\j a b c)(k:∀a b c,g a b c->i a b c->j a b c->P (f a b c)):P x:=by
 obtain⟨a,b,c,rfl,l,m,n⟩:=h
 exact k a b c l m n
@[elab_as_elim] theorem tQ{f:e->d->C->X}{g i j l:e->d->C->Prop}{P:X->Prop}(x:X)(h:∃a b c,x=f a b c/\g a b c/\i a b c/\j a b c/\l a b c)(k:∀a b c,g a b c->i a b c->j a b c->l a b c->P (f a b c)):P x:=by
 obtain⟨a,b,c,rfl,m,n,o,p⟩:=h
 exact k a b c m n o p
theorem KR{g:f->e->C->D->Prop}{P:Prop}(h:∃a b c d,g a b c d)(k:∀a b c d,g a b c d->P):P:=by
 obtain⟨a,b,c,d,i⟩:=h
 exact k a b c d i
theorem wB{g i:f->e->C->D->Prop}{P:Prop}(h:∃a b c d,g a b c d/\i a b c d)(k:∀a b c d,g a b c d->i a b c d->P):P:=by
 obtain⟨a,b,c,d,j,l⟩:=h
 exact k a b c d j l
theorem KS{g i j:f->e->C->D->Prop}{P:Prop}(h:∃a b c d,g a b c d/\i a b c d/\j a b c d)(k:∀a b c d,g a b c d->i a b c d->j a b c d->P):P:=by
 obtain⟨a,b,c,d,l,m,n⟩:=h
 exact k a b c d l m n
theorem z3{g i j l m:f->e->C->D->Prop}{P:Prop}(h:∃a b c d,g a b c d/\i a b c d/\j a b c d/\l a b c d/\m a b c d)(k:∀a b c d,g a b c d->i a b c d->j a b c d->l a b c d->m a b c d->P):P:=by
 obtain⟨a,b,c,d,n,o,p,q,r⟩:=h
 exact k a b c d n o p q r
theorem z4{g i j l m n:f->e->C->D->Prop}{P:Prop}(h:∃a b c d,g a b c d/\i a b c d/\j a b c d/\l a b c d/\m a b c d/\n a b c d)(k:∀a b c d,g a b c d->i a b c d->j a b c d->l a b c d->m a b c d->n a b c d->P):P:=by
 obtain⟨a,b,c,d,o,p,q,r,s,t⟩:=h
 exact k a b c d o p q r s t
@[elab_as_elim] theorem RC{f:g->e->C->D->X}{P:X->Prop}(x:X)(h:∃a b c d,x=f a b c d)(k:∀a b c d,P (f a b c d)):P x:=by
 obtain⟨a,b,c,d,rfl⟩:=h
 exact k a b c d
@[elab_as_elim] theorem RD{f:g->e->C->D->X}{i:g->e->C->D->Prop}{P:X->Prop}(x:X)(h:∃a b c d,x=f a b c d/\i a b c d)(k:∀a b c d,i a b c d->P (f a b c d)):P x:=by
 obtain⟨a,b,c,d,rfl,j⟩:=h
 exact k a b c d j
theorem x2{p:d->c->Prop}(a:d)(b:c)(h:p a b):∃a b,p a b:=⟨a,b,h⟩
theorem x3{p:e->d->C->Prop}(a:e)(b:d)(c:C)(h:p a b c):∃a b c,p a b c:=⟨a,b,c,h⟩
theorem x4{p:f->e->C->D->Prop}(a:f)(b:e)(c:C)(d:D)(h:p a b c d):∃a b c d,p a b c d:=⟨a,b,c,d,h⟩
theorem x5{p:i->f->C->D->g->Prop}(a:i)(b:f)(c:C)(d:D)(e:g)(h:p a b c d e):∃a b c d e,p a b c d e:=⟨a,b,c,d,e,h⟩
theorem aQ[Decidable p](h:I p=U):p:=of_decide_eq_true h
theorem aI{α:Sort u}{β:Sort v}{a b:α}(f:α->β)(h:a=b):f a=f b:=congrArg f h
theorem bS{p:Prop}[Decidable p](h:decide p=true):p:=of_decide_eq_true h
theorem aF{a b:Prop}(h:a)(g:¬a):b:=absurd h g
theorem aJ{c:Prop}{h:Decidable c}(k:c){α:Sort u}{t e:α}:ite c t e=t:=if_pos k
theorem aL{c:Prop}{h:Decidable c}(k:¬c){α:Sort u}{t e:α}:ite c t e=e:=if_neg k
theorem bX[BEq α][LawfulBEq α]{a b:α}:a==b↔a=b:=beq_iff_eq
theorem dA{p:Prop}[Decidable p](h:p):decide p=true:=decide_eq_true h
theorem ef{p:Prop}[Decidable p](h:¬p):decide p=false:=decide_eq_false h
end Pq
open Lean in
local macro_rules
 |`(tactic|rwa[$rs,*])=>do
  let mut ts:Array (TSyntax `tactic):=#[]
  for r in rs.getElems do
   let t <-match r with
    |`(Lean.Parser.Tactic.rwRule| <- $e:term)=>`(tactic|first|refine Pq.iw ($e ..) ?_|refine Iff.mp ($e ..) ?_|rewrite [$r])
    |`(Lean.Parser.Tactic.rwRule| $e:term)=>`(tactic|first|refine Pq.oI ($e ..) ?_|refine Iff.mpr ($e ..) ?_|rewrite [$r])
    |_=>`(tactic|rewrite [$r])
   ts:=ts.push t
  `(tactic|($[$ts];* ;try (with_reducible rfl)))
 |`(tactic|show $t)=>`(tactic|first|refine $t|refine(?_: $t))
open Lean in
local macro_rules
 |`(![$xs,*])=>do
  let t<-xs.getElems.mapM λx=>if x.1.getArgs.size=2∧x.1[0].getAtomVal="<-" then let y:Term:=⟨x.1[1][0]⟩;`(Parser.Tactic.rwRule|<-$y)else `(Parser.Tactic.rwRule|$x:term)
  if t.isEmpty then `(by kernel_rfl)else `(by rwa[$t,*];first|done|rfl|assumption)
namespace Pq
end Pq
section
set_option maxHeartbeats 0
namespace Pq
noncomputable abbrev pw:ki:=PySem.Challenge.pw_pq0096_01
abbrev bd:List dj:=behindTheImports pw
noncomputable def S(x:String):bu:=a0 x
noncomputable def E(P:dg)(k:String)(t:Nat)(v:K):fg:=⟨pV P (a0 k),fU (a0 k) t,v⟩
noncomputable def F(d:l8×List dj×ia)(name a:bu)(g:Nat)(cl:List (bu×aR))(b c doc e:K)(f:Option aR)(h i:K)(j:Nat):vj :=
 {name:=name,qualname:=a,params:=d.1,body:=.stmts d.2.1,scope:=d.2.2,globals:=g,closure:=cl,defaults:=b,kwdefaults:=c,doc:=doc,pyModule:=e,annotations:=f,code:=h,closureTuple:=i,builtins:=j}
noncomputable def KU:dj->l8×List dj×ia
 |.FunctionDef _ a b _ _ _ c _ _ _=>(a,b,c)
 |_=>jU
noncomputable def RF:dj->List dj
 |.ClassDef _ _ _ b _ _ _ _ _ _ _=>b
 |_=>[]
def D0(i:Nat):l8×List dj×ia:=KU (pw.main.body.getD i jU)
def D1(i j:Nat):l8×List dj×ia:=KU ((RF (pw.main.body.getD i jU)).getD j jU)
def fk:c8:={scope:=pw.main.scope,locals:=mainNs,globals:=mainNs,cells:=[],code:= M 13,frame:=W 14}
noncomputable def zs(x:String)(t:Nat):K:= fU (a0 x) t
noncomputable def zn(i:Int):K:= bL i 0
noncomputable def zr(a:Nat):K:= M a
noncomputable def ob(c:String)(l:List K):cC:=⟨aZ c,N,dU ⟨l⟩,⟨[]⟩⟩
noncomputable def tp(l:List K):cC:=⟨aZ "tuple",N,.seq ⟨l⟩ 0,⟨[]⟩⟩
noncomputable def fl(l:List K):cC:=⟨aN,N,dU ⟨l⟩,⟨[]⟩⟩
noncomputable def dc(l:List fg)(k:Nat):cC:=⟨aZ "dict",N,mu ⟨l⟩ k,⟨[]⟩⟩
def fr(a b:Nat)(m:String)(t:Nat):cC:=⟨aZ "frame",N,.plain,⟨[W (zr a),W (zr 3),W (zr b),N,W (zs m t),N,W (zr 0)]⟩⟩
def f0(d:l8×List dj×ia)(x q:String):cC:=⟨aN,N,.func (F d (S x) (S q) 0 [] aN aN aN aN N aN aN 0),⟨[]⟩⟩
def f1(d:l8×List dj×ia)(x q m:String)(t c:Nat):cC:=⟨aZ "function",N,.func (F d (S x) (S q) 3 [] aN aN aN (zs m t) N (zr c) aN 0),⟨[]⟩⟩
def cx(x:String)(t:Nat)(q:String)(f g:Nat)(h i j:Int)(r:Nat)(b:Bool)(z:Int)(k:Nat)(a c d e:K)(l:Nat)(m:Int)(n:Nat):cC :=
 ob "code" [zs x t,zs q f,zs "/claim/cut.py" g,zn h,zn i,zn 0,zn 0,zn j,zr r,eh b,zn z,zr k,a,c,d,e,zn l,zn m,zs "/claim/cut.py" n]
def cd(x q:String)(t:Nat)(a c:Int)(r b:Nat):cC:=cx x t q (t+1) (t+2) a c 3 r U 181 (r+1) aN (zr (r+2)) (zr (r+3)) (zr (r+4)) b a (b+1)
def ce(x q:String)(t:Nat)(a c d:Int)(r b:Nat):cC:=cx x t q (t+1) (t+2) a c d r U 181 (r+1) aN aN aN (zr (r+2)) b a (b+1)
def cf(x q:String)(t:Nat)(a c d:Int)(r b:Nat):cC:=cx x t q (t+1) (t+2) a c d r Y 181 (r+1) aN aN aN aN b a (b+1)
def o12(P:dg):cC:=fl []
def bp:cC:=ob "builtin_function_or_method" [bM "type.__prepare__",aZ "type"]
def gd(t a:Nat):cC:=ob "getset_descriptor" [zs "__dict__" t,zr a,bM "function.__dict__",bM "function.__dict__#set"]
def gw(t a:Nat):cC:=ob "getset_descriptor" [zs "__weakref__" t,zr a,bM "ExceptionGroup.__weakref__",aN]
def su(a:Nat):cC:=ob "super" [zr a,zr a,zr a]
def sb(a:Nat):cC:=ob "builtin_function_or_method" [bM "object.__init_subclass__",zr a]
def kc(x:String)(a t u:Nat):cC:=⟨aZ "type",N,.cls ⟨S x,[aZ "object"],[zr a,aZ "object"],a-1,S x,U,[],[],Y,N,Y⟩,⟨[N,N,W (zs x t),W (zs x u),W (bM "object.__new__"),W (eh U)]⟩⟩
def tr(c:Int)(l:List (Int×Nat)):List K:=l.flatMap λp=>[zn p.1,zn c,zr p.2]
def ks(P:dg)(l:List (String×Nat×Nat)):List fg:=l.map λp=>E P p.1 p.2.1 (zr p.2.2)
def md(P:dg)(v:K):List fg:=[E P "__name__" 165 v,E P "__doc__" 166 aN,E P "__package__" 167 aN,E P "__loader__" 168 (bM "__main__.__loader__#opaque"),E P "__spec__" 169 aN,E P "__annotations__" 170 (zr 6),E P "__builtins__" 171 (zr 4),E P "__file__" 173 (zs "/claim/cut.py" 172),E P "__cached__" 174 aN]
def ci(P:dg)(t:Nat)(m:String)(u:Nat)(l:Int):List fg:=[E P "__module__" t (zs m u),E P "__firstlineno__" (t+4) (bL l (t+3))]
def ch(P:dg)(t:Nat)(m:String)(u:Nat)(x:String)(l:Int):List fg:=[E P "__module__" t (zs m u),E P "__qualname__" (t+2) (zs x (t+1)),E P "__firstlineno__" (t+4) (bL l (t+3))]
def mA(d:l8×List dj×ia)(x q m:String)(u:Nat)(l:List String)(t:Nat)(a b:Int)(r:Nat):List cC:=[tp [],fl [],tp (l.zipIdx.map λp=>zs p.1 (t+3+p.2)),tp [],f0 d x q,cd x q t a b r (t+3+l.length),f1 d x q m u (r+5)]
def mB(d:l8×List dj×ia)(x q m:String)(u t:Nat)(a b:Int)(r:Nat):List cC:=[tp [],fl [],f0 d x q,ce x q t a b 3 r (t+3),f1 d x q m u (r+3)]
def o2(P:dg):cC:=⟨aN,N,(mu ⟨[E P "type.__subclasses__.Exception.0" 230 (zn 47),E P "type.__subclasses__.Exception.n" 231 (zn 1)]⟩ 2),⟨[]⟩⟩
noncomputable def wC:List (String×Nat×Nat):=[("_wall",193,21),("HeapError",233,47),("TermFault",249,60),("RuleFault",265,72),("is_op",273,79),("is_variable",280,86),("variables",286,91),("parts",292,96),("Bank",423,198),("program",431,207),("Machine",472,234),("Unions",574,316),("Heap",740,446),("whole_of",748,455),("Rule",787,477),("A",793,482),("B",794,483),("C",795,484),("named_value",803,495),("laws_of",811,502),("Ring",854,531),("Truths",889,557),("Lists",923,583),("Sets",967,616),("_law_draw",978,627),("_law_theory",988,634),("_law_worths",994,639),("_law_heap",1000,644),("_law_names",1006,649),("_law_stands",1012,654),("_law_tried",1018,659),("_law_filled",1024,664),("law",1030,669)]
noncomputable def z5:List (Int×Nat):=[(1,20),(5,28),(13,56),(15,68),(18,78),(20,85),(22,90),(24,95),(29,102),(99,206),(113,213),(136,244),(180,326),(262,454),(268,461),(290,494),(294,501),(296,508),(315,541),(332,567),(349,593),(370,626),(376,633),(386,638),(388,643),(401,648),(408,653),(412,658),(421,663),(425,668)]
def o3(P:dg):cC:=dc (md P (zs "alikeheap.terms" 266)++ks P (wC.take 9)) 18
def RG(P:dg):cC:=fl (tr 0 (z5.take 9))
def RH(P:dg):cC:=dc (md P (zs "alikeheap.heap" 575)++ks P (wC.take 12)) 21
def RI(P:dg):cC:=fl (tr 0 (z5.take 12))
def RJ(P:dg):cC:=dc (md P (zs "alikeheap.theories" 788)++ks P (wC.take 15)) 24
def KW(P:dg):cC:=fl (tr 0 (z5.take 15))
def RK(P:dg):cC:=dc (md P (zs "alikeheap.theories" 788)++ks P (wC.take 18)) 27
def KX(P:dg):cC:=dc (md P (zs "law_pq0096_01" 968)++ks P wC) 42
def RM(P:dg):cC:=fl (tr 0 z5)
def tR(b c a:cC)(P:dg):List cC:=[boot_o_0 P,boot_o_1 P,b,c,boot_o_4 P,boot_o_5 P,boot_o_6 P,boot_o_7 P,boot_o_8 P,boot_o_9 P,boot_o_10 P,tp [],a,cf "<module>" "<module>" 182 1 0 0 11 185,fr 13 3 "__main__" 164]
def wF(P:dg):List cC:=y4 [mA (D0 0) "_wall" "_wall" "__main__" 164 ["k"] 187 1 1 15,
 [tp [(aZ "Exception")],bp,dc (ch P 203 "alikeheap.errors" 194 "HeapError" 5++ks P [("__init__",216,37),("told",223,44),("__static_attributes__",225,45),("__classcell__",226,25)]) 7,⟨(aZ "cell"),N,(.cell (W (zr 47))),⟨[]⟩⟩,tp [],fl (tr 4 [(7,36),(11,43)]),cf "HeapError" "HeapError" 198 5 0 0 26 201,fr 28 24 "alikeheap.errors" 194,tp [(zr 25)],tp [(zs "__class__" 211)],fl [],tp [(zs "self" 212),(zs "what" 213)],tp [],f0 (D1 2 0) "__init__" "HeapError.__init__",cd "__init__" "HeapError.__init__" 208 7 2 31 214,⟨(aZ "function"),N,(.func (F (D1 2 0) (S "__init__") (S "HeapError.__init__") 3 [((S "__class__"),25)] aN aN aN (zs "alikeheap.errors" 194) N (zr 36) (zr 30) 0)),⟨[]⟩⟩],
 mA (D1 2 1) "told" "HeapError.told" "alikeheap.errors" 194 ["self"] 217 11 1 38,
 [tp [(zs "what" 224)],dc (ci P 203 "alikeheap.errors" 194 5++ks P [("__init__",216,37),("told",223,44),("__static_attributes__",225,45),("__weakref__",228,48)]++[E P "__doc__" 229 aN]) 4,⟨(aZ "type"),N,(.cls ⟨(S "HeapError"),[(aZ "Exception")],[(zr 47),(aZ "Exception"),(aZ "BaseException"),(aZ "object")],46,(S "HeapError"),U,[],[(zr 60),(zr 72)],Y,N,Y⟩),⟨[(W (zr 22)),N,(W (zs "HeapError" 196)),(W (zs "HeapError" 204)),(W (bM "Exception.__new__")),(W (eh U))]⟩⟩,gw 227 47,su 47,sb 47,tp [(zr 47)],bp,dc [E P "__module__" 241 (zs "alikeheap.errors" 194),E P "__qualname__" 243 (zs "TermFault" 242),E P "__firstlineno__" 245 (bL 13 244),E P "__static_attributes__" 246 (zr 58)] 4,tp [],fl [],cf "TermFault" "TermFault" 236 13 0 0 54 239,fr 56 53 "alikeheap.errors" 194,tp [],dc [E P "__module__" 241 (zs "alikeheap.errors" 194),E P "__firstlineno__" 245 (bL 13 244),E P "__static_attributes__" 246 (zr 58),E P "__doc__" 247 aN] 2,⟨(aZ "type"),N,(.cls ⟨(S "TermFault"),[(zr 47)],[(zr 60),(zr 47),(aZ "Exception"),(aZ "BaseException"),(aZ "object")],59,(S "TermFault"),U,[],[],Y,N,Y⟩),⟨[(W (zr 51)),N,(W (zs "TermFault" 234)),(W (zs "TermFault" 242)),(W (bM "Exception.__new__")),(W (eh U))]⟩⟩,su 60,sb 60,tp [(zr 47)],bp,dc [E P "__module__" 257 (zs "alikeheap.errors" 194),E P "__qualname__" 259 (zs "RuleFault" 258),E P "__firstlineno__" 261 (bL 15 260),E P "__static_attributes__" 262 (zr 70)] 4,tp [],fl [],cf "RuleFault" "RuleFault" 252 15 0 0 66 255,fr 68 65 "alikeheap.errors" 194,tp [],dc [E P "__module__" 257 (zs "alikeheap.errors" 194),E P "__firstlineno__" 261 (bL 15 260),E P "__static_attributes__" 262 (zr 70),E P "__doc__" 263 aN] 2,⟨(aZ "type"),N,(.cls ⟨(S "RuleFault"),[(zr 47)],[(zr 72),(zr 47),(aZ "Exception"),(aZ "BaseException"),(aZ "object")],71,(S "RuleFault"),U,[],[],Y,N,Y⟩),⟨[(W (zr 63)),N,(W (zs "RuleFault" 250)),(W (zs "RuleFault" 258)),(W (bM "Exception.__new__")),(W (eh U))]⟩⟩,su 72,sb 72],
 mB (D0 6) "is_op" "is_op" "alikeheap.terms" 266 268 18 1 75,
 mA (D0 7) "is_variable" "is_variable" "alikeheap.terms" 266 ["t"] 274 20 1 80,
 mB (D0 8) "variables" "variables" "alikeheap.terms" 266 281 22 1 87,
 mB (D0 9) "parts" "parts" "alikeheap.terms" 266 287 24 1 92,
 [tp [],bp,dc (ch P 300 "alikeheap.terms" 266 "Bank" 29++ks P [("__init__",311,110),("size",318,117),("take",324,122),("require",332,129),("put",342,136),("put_all",348,141),("cut",356,148),("op",364,155),("kids",372,162),("node",380,169),("term",386,174),("weight",394,181),("depth",402,188),("seek",411,195),("__static_attributes__",416,196)]) 18,tp [],fl (tr 4 [(31,109),(37,116),(40,121),(54,128),(58,135),(63,140),(66,147),(69,154),(72,161),(75,168),(78,173),(90,180),(93,187),(96,194)]),cf "Bank" "Bank" 295 29 0 0 100 298,fr 102 99 "alikeheap.terms" 266],
 mA (D1 10 0) "__init__" "Bank.__init__" "alikeheap.terms" 266 ["self"] 305 31 1 104,
 mA (D1 10 1) "size" "Bank.size" "alikeheap.terms" 266 ["self"] 312 37 1 111,
 mB (D1 10 2) "take" "Bank.take" "alikeheap.terms" 266 319 40 3 118,
 mA (D1 10 3) "require" "Bank.require" "alikeheap.terms" 266 ["self","op"] 325 54 2 123,
 mA (D1 10 4) "put" "Bank.put" "alikeheap.terms" 266 ["self","t","path","part"] 333 58 2 130,
 mB (D1 10 5) "put_all" "Bank.put_all" "alikeheap.terms" 266 343 63 2 137,
 mA (D1 10 6) "cut" "Bank.cut" "alikeheap.terms" 266 ["self","many"] 349 66 2 142,
 mA (D1 10 7) "op" "Bank.op" "alikeheap.terms" 266 ["self","n"] 357 69 2 149,
 mA (D1 10 8) "kids" "Bank.kids" "alikeheap.terms" 266 ["self","n"] 365 72 2 156,
 mA (D1 10 9) "node" "Bank.node" "alikeheap.terms" 266 ["self","n"] 373 75 2 163,
 mB (D1 10 10) "term" "Bank.term" "alikeheap.terms" 266 381 78 2 170,
 mA (D1 10 11) "weight" "Bank.weight" "alikeheap.terms" 266 ["self","n"] 387 90 2 175,
 mA (D1 10 12) "depth" "Bank.depth" "alikeheap.terms" 266 ["self","n"] 395 93 2 182,
 mA (D1 10 13) "seek" "Bank.seek" "alikeheap.terms" 266 ["self","op","kids"] 403 96 3 189,
 [tp [(zs "depths" 412),(zs "nodes" 413),(zs "numbers" 414),(zs "weights" 415)],dc (ci P 300 "alikeheap.terms" 266 29++ks P [("__init__",311,110),("size",318,117),("take",324,122),("require",332,129),("put",342,136),("put_all",348,141),("cut",356,148),("op",364,155),("kids",372,162),("node",380,169),("term",386,174),("weight",394,181),("depth",402,188),("seek",411,195),("__static_attributes__",416,196),("__dict__",418,199),("__weakref__",420,200)]++[E P "__doc__" 421 aN]) 4,kc "Bank" 198 293 301,gd 417 198,gw 419 198,su 198,sb 198]]
def z6(P:dg):List cC:=y4 [mB (D0 12) "program" "program" "alikeheap.matching" 424 426 99 1 203,
 [tp [],bp,dc (ch P 439 "alikeheap.matching" 424 "Machine" 113++ks P [("__init__",451,221),("steps",457,226),("run",463,231),("__static_attributes__",465,232)]) 7,tp [],fl (tr 4 [(115,220),(118,225),(125,230)]),cf "Machine" "Machine" 434 113 0 0 211 437,fr 213 210 "alikeheap.matching" 424],
 mA (D1 13 0) "__init__" "Machine.__init__" "alikeheap.matching" 424 ["self","heap"] 444 115 2 215,
 mB (D1 13 1) "steps" "Machine.steps" "alikeheap.matching" 424 452 118 3 222,
 mB (D1 13 2) "run" "Machine.run" "alikeheap.matching" 424 458 125 2 227,
 [tp [(zs "heap" 464)],dc (ci P 439 "alikeheap.matching" 424 113++ks P [("__init__",451,221),("steps",457,226),("run",463,231),("__static_attributes__",465,232),("__dict__",467,235),("__weakref__",469,236)]++[E P "__doc__" 470 aN]) 4,kc "Machine" 234 432 440,gd 466 234,gw 468 234,su 234,sb 234,tp [],bp,dc (ch P 482 "alikeheap.unions" 473 "Unions" 136++ks P [("__init__",493,252),("make",500,259),("size",507,266),("find",515,273),("merge",526,280),("members",534,287),("classes",540,292),("log",547,299),("back",555,306),("cut",563,313),("__static_attributes__",567,314)]) 14,tp [],fl (tr 4 [(138,251),(143,258),(148,265),(151,272),(156,279),(165,286),(168,291),(171,298),(174,305),(177,312)]),cf "Unions" "Unions" 477 136 0 0 242 480,fr 244 241 "alikeheap.unions" 473],
 mA (D1 15 0) "__init__" "Unions.__init__" "alikeheap.unions" 473 ["self"] 487 138 1 246,
 mA (D1 15 1) "make" "Unions.make" "alikeheap.unions" 473 ["self"] 494 143 1 253,
 mA (D1 15 2) "size" "Unions.size" "alikeheap.unions" 473 ["self"] 501 148 1 260,
 mA (D1 15 3) "find" "Unions.find" "alikeheap.unions" 473 ["self","a"] 508 151 2 267,
 mA (D1 15 4) "merge" "Unions.merge" "alikeheap.unions" 473 ["self","a","b","kept","gone"] 516 156 3 274,
 mA (D1 15 5) "members" "Unions.members" "alikeheap.unions" 473 ["self","a"] 527 165 2 281,
 mB (D1 15 6) "classes" "Unions.classes" "alikeheap.unions" 473 535 168 1 288,
 mA (D1 15 7) "log" "Unions.log" "alikeheap.unions" 473 ["self"] 541 171 1 293,
 mA (D1 15 8) "back" "Unions.back" "alikeheap.unions" 473 ["self","many"] 548 174 2 300,
 mA (D1 15 9) "cut" "Unions.cut" "alikeheap.unions" 473 ["self","many"] 556 177 2 307,
 [tp [(zs "above" 564),(zs "lots" 565),(zs "merged" 566)],dc (ci P 482 "alikeheap.unions" 473 136++ks P [("__init__",493,252),("make",500,259),("size",507,266),("find",515,273),("merge",526,280),("members",534,287),("classes",540,292),("log",547,299),("back",555,306),("cut",563,313),("__static_attributes__",567,314),("__dict__",569,317),("__weakref__",571,318)]++[E P "__doc__" 572 aN]) 4,kc "Unions" 316 475 483,gd 568 316,gw 570 316,su 316,sb 316]]
def EA(P:dg):List cC:=y4 [[tp [],bp,dc (ch P 584 "alikeheap.heap" 575 "Heap" 180++ks P [("__init__",595,334),("size",602,341),("node",608,346),("add",614,351),("put",620,356),("look_at",629,363),("find",637,370),("are_like",646,377),("merge",656,384),("join",669,391),("settle",676,398),("is_settled",683,405),("classes",690,412),("members",698,419),("nodes_of",704,424),("many_nodes",711,431),("seek",717,436),("users",725,443),("__static_attributes__",733,444)]) 22,tp [],fl (tr 4 [(182,333),(191,340),(194,345),(197,350),(208,355),(211,362),(216,369),(219,376),(222,383),(225,390),(236,397),(240,404),(243,411),(246,418),(249,423),(252,430),(255,435),(259,442)]),cf "Heap" "Heap" 579 180 0 0 324 582,fr 326 323 "alikeheap.heap" 575],
 mA (D1 17 0) "__init__" "Heap.__init__" "alikeheap.heap" 575 ["self"] 589 182 1 328,
 mA (D1 17 1) "size" "Heap.size" "alikeheap.heap" 575 ["self"] 596 191 1 335,
 mB (D1 17 2) "node" "Heap.node" "alikeheap.heap" 575 603 194 2 342,
 mB (D1 17 3) "add" "Heap.add" "alikeheap.heap" 575 609 197 3 347,
 mB (D1 17 4) "put" "Heap.put" "alikeheap.heap" 575 615 208 2 352,
 mA (D1 17 5) "look_at" "Heap.look_at" "alikeheap.heap" 575 ["self","n","other"] 621 211 2 357,
 mA (D1 17 6) "find" "Heap.find" "alikeheap.heap" 575 ["self","n"] 630 216 2 364,
 mA (D1 17 7) "are_like" "Heap.are_like" "alikeheap.heap" 575 ["self","a","b"] 638 219 3 371,
 mA (D1 17 8) "merge" "Heap.merge" "alikeheap.heap" 575 ["self","a","b","reason"] 647 222 4 378,
 mA (D1 17 9) "join" "Heap.join" "alikeheap.heap" 575 ["self","a","b","reason","merged","kept","gone"] 657 225 4 385,
 mA (D1 17 10) "settle" "Heap.settle" "alikeheap.heap" 575 ["self"] 670 236 1 392,
 mA (D1 17 11) "is_settled" "Heap.is_settled" "alikeheap.heap" 575 ["self"] 677 240 1 399,
 mA (D1 17 12) "classes" "Heap.classes" "alikeheap.heap" 575 ["self"] 684 243 1 406,
 mA (D1 17 13) "members" "Heap.members" "alikeheap.heap" 575 ["self","c"] 691 246 2 413,
 mB (D1 17 14) "nodes_of" "Heap.nodes_of" "alikeheap.heap" 575 699 249 2 420,
 mA (D1 17 15) "many_nodes" "Heap.many_nodes" "alikeheap.heap" 575 ["self"] 705 252 1 425,
 mB (D1 17 16) "seek" "Heap.seek" "alikeheap.heap" 575 712 255 3 432,
 mA (D1 17 17) "users" "Heap.users" "alikeheap.heap" 575 ["self","c"] 718 259 2 437,
 [tp [(zs "above" 726),(zs "bank" 727),(zs "edges" 728),(zs "forest" 729),(zs "known" 730),(zs "unions" 731),(zs "waiting" 732)],dc (ci P 584 "alikeheap.heap" 575 180++ks P [("__init__",595,334),("size",602,341),("node",608,346),("add",614,351),("put",620,356),("look_at",629,363),("find",637,370),("are_like",646,377),("merge",656,384),("join",669,391),("settle",676,398),("is_settled",683,405),("classes",690,412),("members",698,419),("nodes_of",704,424),("many_nodes",711,431),("seek",717,436),("users",725,443),("__static_attributes__",733,444),("__dict__",735,447),("__weakref__",737,448)]++[E P "__doc__" 738 aN]) 4,kc "Heap" 446 577 585,gd 734 446,gw 736 446,su 446,sb 446],
 mB (D0 19) "whole_of" "whole_of" "alikeheap.analyses" 741 743 262 1 451,
 [tp [],bp,dc (ch P 758 "alikeheap.rules" 749 "Rule" 268++ks P [("__init__",768,467),("turned",775,474),("__static_attributes__",780,475)]) 6,tp [],fl (tr 4 [(270,466),(286,473)]),cf "Rule" "Rule" 753 268 0 0 459 756,fr 461 458 "alikeheap.rules" 749],
 mB (D1 21 0) "__init__" "Rule.__init__" "alikeheap.rules" 749 763 270 5 463,
 mA (D1 21 1) "turned" "Rule.turned" "alikeheap.rules" 749 ["self"] 769 286 1 468,
 [tp [(zs "left" 776),(zs "name" 777),(zs "needs" 778),(zs "right" 779)],dc (ci P 758 "alikeheap.rules" 749 268++ks P [("__init__",768,467),("turned",775,474),("__static_attributes__",780,475),("__dict__",782,478),("__weakref__",784,479)]++[E P "__doc__" 785 aN]) 4,kc "Rule" 477 751 759,gd 781 477,gw 783 477,su 477,sb 477]]
def KY(P:dg):List cC:=[tp [(zs "?a" 790)],tp [(zs "?b" 791)],tp [(zs "?c" 792)],tp [(zr 482),(zr 483),(zr 484)],ob "tuple_iterator" [aN,(zn 3)],tp [],ob "StopIteration" [(zr 487),aN,aN,aN,(eh Y),aN]]
def RN(P:dg):List cC:=y4 [mA (D0 24) "named_value" "named_value" "alikeheap.theories" 788 ["term","env"] 796 290 2 489,
 mA (D0 25) "laws_of" "laws_of" "alikeheap.theories" 788 ["op","unit"] 804 294 2 496,
 [tp [],bp,dc (ch P 819 "alikeheap.theories" 788 "Ring" 296++ks P [("__init__",831,516),("rules",839,523),("value",845,528),("__static_attributes__",847,529)]) 7,tp [],fl (tr 4 [(298,515),(301,522),(305,527)]),cf "Ring" "Ring" 814 296 0 0 506 817,fr 508 505 "alikeheap.theories" 788],
 mA (D1 26 0) "__init__" "Ring.__init__" "alikeheap.theories" 788 ["self","n"] 824 298 2 510,
 mA (D1 26 1) "rules" "Ring.rules" "alikeheap.theories" 788 ["self","zero"] 832 301 1 517,
 mB (D1 26 2) "value" "Ring.value" "alikeheap.theories" 788 840 305 3 524,
 [tp [(zs "n" 846)],dc (ci P 819 "alikeheap.theories" 788 296++ks P [("__init__",831,516),("rules",839,523),("value",845,528),("__static_attributes__",847,529),("__dict__",849,532),("__weakref__",851,533)]++[E P "__doc__" 852 aN]) 4,kc "Ring" 531 812 820,gd 848 531,gw 850 531,su 531,sb 531,tp [],bp,dc (ch P 862 "alikeheap.theories" 788 "Truths" 315++ks P [("rules",875,549),("value",881,554),("__static_attributes__",882,555)]) 6,tp [],fl (tr 4 [(317,548),(321,553)]),cf "Truths" "Truths" 857 315 0 0 539 860,fr 541 538 "alikeheap.theories" 788],
 mA (D1 27 0) "rules" "Truths.rules" "alikeheap.theories" 788 ["self","true","false"] 867 317 1 543,
 mB (D1 27 1) "value" "Truths.value" "alikeheap.theories" 788 876 321 3 550,
 [tp [],dc (ci P 862 "alikeheap.theories" 788 315++ks P [("rules",875,549),("value",881,554),("__static_attributes__",882,555),("__dict__",884,558),("__weakref__",886,559)]++[E P "__doc__" 887 aN]) 4,kc "Truths" 557 855 863,gd 883 557,gw 885 557,su 557,sb 557,tp [],bp,dc (ch P 897 "alikeheap.theories" 788 "Lists" 332++ks P [("rules",909,575),("value",915,580),("__static_attributes__",916,581)]) 6,tp [],fl (tr 4 [(334,574),(338,579)]),cf "Lists" "Lists" 892 332 0 0 565 895,fr 567 564 "alikeheap.theories" 788],
 mA (D1 28 0) "rules" "Lists.rules" "alikeheap.theories" 788 ["self","nil"] 902 334 1 569,
 mB (D1 28 1) "value" "Lists.value" "alikeheap.theories" 788 910 338 3 576,
 [tp [],dc (ci P 897 "alikeheap.theories" 788 332++ks P [("rules",909,575),("value",915,580),("__static_attributes__",916,581),("__dict__",918,584),("__weakref__",920,585)]++[E P "__doc__" 921 aN]) 4,kc "Lists" 583 890 898,gd 917 583,gw 919 583,su 583,sb 583,tp [],bp,dc (ch P 931 "alikeheap.theories" 788 "Sets" 349++ks P [("__init__",943,601),("rules",952,608),("value",958,613),("__static_attributes__",960,614)]) 7,tp [],fl (tr 4 [(351,600),(354,607),(358,612)]),cf "Sets" "Sets" 926 349 0 0 591 929,fr 593 590 "alikeheap.theories" 788],
 mA (D1 29 0) "__init__" "Sets.__init__" "alikeheap.theories" 788 ["self","n"] 936 351 2 595,
 mA (D1 29 1) "rules" "Sets.rules" "alikeheap.theories" 788 ["self","none","whole"] 944 354 1 602,
 mB (D1 29 2) "value" "Sets.value" "alikeheap.theories" 788 953 358 3 609,
 [tp [(zs "whole" 959)],dc (ci P 931 "alikeheap.theories" 788 349++ks P [("__init__",943,601),("rules",952,608),("value",958,613),("__static_attributes__",960,614),("__dict__",962,617),("__weakref__",964,618)]++[E P "__doc__" 965 aN]) 4,kc "Sets" 616 924 932,gd 961 616,gw 963 616,su 616,sb 616],
 mA (D0 31) "_law_draw" "_law_draw" "law_pq0096_01" 968 ["feed","wide","k"] 970 370 2 621,
 mA (D0 32) "_law_theory" "_law_theory" "law_pq0096_01" 968 ["feed","way","small","worths"] 979 376 1 628,
 mB (D0 33) "_law_worths" "_law_worths" "law_pq0096_01" 968 989 386 3 635,
 mB (D0 34) "_law_heap" "_law_heap" "law_pq0096_01" 968 995 388 5 640,
 mB (D0 35) "_law_names" "_law_names" "law_pq0096_01" 968 1001 401 1 645,
 mB (D0 36) "_law_stands" "_law_stands" "law_pq0096_01" 968 1007 408 3 650,
 mB (D0 37) "_law_tried" "_law_tried" "law_pq0096_01" 968 1013 412 3 655,
 mB (D0 38) "_law_filled" "_law_filled" "law_pq0096_01" 968 1019 421 3 660,
 mB (D0 39) "law" "law" "law_pq0096_01" 968 1025 425 1 665]
noncomputable def EB :List b->List b
 |a::_::l=>a::EB l
 |l=>l
noncomputable def qa:Nat->List cC->BT
 |n+1,x::l=>.node x (qa n (EB l)) (qa n (EB l.tail))
 |_,_=>.nil
def lG(P:dg):List cC:=tR (o2 P) (KX P) (RM P) P++(wF P++(z6 P++(EA P++(KY P++RN P))))
def oB(P:dg)(i:Nat):cC:=(lG P).getD i jU
def KZ(P:dg):BT:=qa 12 (tR (boot_o_2 P) (boot_o_3 P) (o12 P) P)
def K0(w:aU)(a:fT):pT:=⟨KZ w.params,15,⟨[],[],[],0,[],[],Y,⟨[]⟩,[],0,Y,Y,Y,0,[2000,10,10],Y,0,U,[],[],0,Y⟩,⟨[]⟩,⟨0,0,0,0⟩,187,a⟩
def RO(P:dg):BT:=KZ P
def K1(w:aU)(a:fT):pT:=⟨RO w.params,15,⟨[],[],[],0,[],[],Y,⟨[]⟩,[],0,Y,Y,Y,0,[2000,10,10],Y,0,U,[],[],0,Y⟩,⟨[]⟩,⟨0,0,0,0⟩,187,a⟩
def RQ(P:dg):BT:=qa 12 (tR (o2 P) (o3 P) (RG P) P++wF P)
def K2(w:aU)(a:fT):pT:=⟨RQ w.params,203,⟨[],[],[],0,[],[],Y,⟨[]⟩,[],0,Y,Y,Y,0,[2000,10,10],Y,0,U,[],[],0,Y⟩,⟨[]⟩,⟨0,0,0,0⟩,424,a⟩
def RR(P:dg):BT:=qa 12 (tR (o2 P) (RH P) (RI P) P++(wF P++z6 P))
def K3(w:aU)(a:fT):pT:=⟨RR w.params,321,⟨[],[],[],0,[],[],Y,⟨[]⟩,[],0,Y,Y,Y,0,[2000,10,10],Y,0,U,[],[],0,Y⟩,⟨[]⟩,⟨0,0,0,0⟩,577,a⟩
def RS(P:dg):BT:=qa 12 (tR (o2 P) (RJ P) (KW P) P++(wF P++(z6 P++EA P)))
def z7(w:aU)(a:fT):pT:=⟨RS w.params,482,⟨[],[],[],0,[],[],Y,⟨[]⟩,[],0,Y,Y,Y,0,[2000,10,10],Y,0,U,[],[],0,Y⟩,⟨[]⟩,⟨0,0,0,0⟩,790,a⟩
def RT(P:dg):BT:=qa 12 (tR (o2 P) (RK P) (KW P) P++(wF P++(z6 P++(EA P++KY P))))
def z8(w:aU)(a:fT):pT:=⟨RT w.params,489,⟨[],[],[],0,[],[],Y,⟨[]⟩,[],0,Y,Y,Y,0,[2000,10,10],Y,0,U,[],[],0,Y⟩,⟨[]⟩,⟨0,0,0,0⟩,796,a⟩
def K4(P:dg):BT:=qa 12 (lG P)
def K5(w:aU)(a:fT):pT:=⟨K4 w.params,670,⟨[],[],[],0,[],[],Y,⟨[]⟩,[],0,Y,Y,Y,0,[2000,10,10],Y,0,U,[],[],0,Y⟩,⟨[]⟩,⟨0,0,0,0⟩,1031,a⟩
def tS(P:dg):BT:=K4 P
def mC(w:aU)(a:fT):pT:=⟨tS w.params,670,⟨[],[],[],0,[],[],Y,⟨[]⟩,[],0,Y,Y,Y,0,[2000,10,10],Y,0,U,[],[],0,Y⟩,⟨[]⟩,⟨0,0,0,0⟩,1031,a⟩
theorem RU(w:aU)(a:fT):topGo kj pw w 11 (W (M 6)) 12 ⟨nB w.params,⟨[]⟩,vZ,v7,a⟩ (topStub pw) =
 W ((K0 w a).abs,⟨denote kj (iq bd fk),iq bd fk,⟨0,0,0,0⟩,[nC ⟨0,0,0,0⟩]⟩):=by rwa[oF];kernel_rfl
theorem RV(w:aU)(a:fT):segRun kj pw w 11 (W (M 6)) 1 1 (K0 w a).abs (blockOf bd fk (iq bd fk) ⟨0,0,0,0⟩ [nC ⟨0,0,0,0⟩]) =
 W (fD,(K1 w a).abs,iq bd fk,⟨0,0,0,0⟩):=by rwa[oF];kernel_rfl
abbrev L0:List dj:=(bd).take 11
abbrev R0:List dj:=(bd).drop 11
abbrev L1:List dj:=(R0).take 6
abbrev R1:List dj:=(R0).drop 6
abbrev L2:List dj:=(R1).take 6
abbrev R2:List dj:=(R1).drop 6
abbrev L3:List dj:=(R2).take 1
abbrev R3:List dj:=(R2).drop 1
abbrev L4:List dj:=(R3).take 16
abbrev R4:List dj:=(R3).drop 16
theorem RW(w:aU)(a:fT):rz kj pw w 11 (W (M 6)) 1 1486 (K1 w a) (rA L0 fk (iq bd fk) ⟨0,0,0,0⟩ [nC ⟨0,0,0,0⟩]) =
 W (fD,K2 w a,iq bd fk,⟨29,0,97,56⟩):=by rwa[oF];kernel_rfl
theorem RX(w:aU)(a:fT):rz kj pw w 11 (W (M 6)) 1 839 (K2 w a) (rA L1 fk (iq bd fk) ⟨29,0,97,56⟩ [nC ⟨0,0,0,0⟩]) =
 W (fD,K3 w a,iq bd fk,⟨179,0,179,8⟩):=by rwa[oF];kernel_rfl
theorem RY(w:aU)(a:fT):rz kj pw w 11 (W (M 6)) 1 1061 (K3 w a) (rA L2 fk (iq bd fk) ⟨179,0,179,8⟩ [nC ⟨0,0,0,0⟩]) =
 W (fD,z7 w a,iq bd fk,⟨288,0,288,8⟩):=by rwa[oF];kernel_rfl
theorem RZ(w:aU)(a:fT):rz kj pw (w.withFollow "special-get-raises" Y) 11 (W (M 6)) 1 90 (z7 (w.withFollow "special-get-raises" Y) a) (rA L3 fk (iq bd fk) ⟨288,0,288,8⟩ [nC ⟨0,0,0,0⟩]) =
 W (fD,z8 (w.withFollow "special-get-raises" Y) a,iq bd fk,⟨289,6,289,7⟩):=by rwa[oF];kernel_rfl
theorem R5(w:aU)(a:fT):rz kj pw (w.withFollow "special-get-raises" U) 11 (W (M 6)) 1 90 (z7 (w.withFollow "special-get-raises" U) a) (rA L3 fk (iq bd fk) ⟨288,0,288,8⟩ [nC ⟨0,0,0,0⟩]) =
 W (fD,z8 (w.withFollow "special-get-raises" U) a,iq bd fk,⟨289,6,289,7⟩):=by rwa[oF];kernel_rfl
theorem R6(w:aU)(a:fT):rz kj pw w 11 (W (M 6)) 1 90 (z7 w a) (rA L3 fk (iq bd fk) ⟨288,0,288,8⟩ [nC ⟨0,0,0,0⟩]) =
 W (fD,z8 w a,iq bd fk,⟨289,6,289,7⟩):=by
 have e:=World.withFollow_self w "special-get-raises"
 generalize c:w.params.followText "special-get-raises" =b;induction b<;>rw[c]at e
 .have h:=RZ w a;rw[e]at h;show h
 .have h:=R5 w a;rw[e]at h;show h
theorem R7(w:aU)(a:fT):rz kj pw w 11 (W (M 6)) 1 1379 (z8 w a) (rA L4 fk (iq bd fk) ⟨289,6,289,7⟩ [nC ⟨0,0,0,0⟩]) =
 W (fD,K5 w a,iq bd fk,⟨425,0,444,15⟩):=by rwa[oF];kernel_rfl
theorem R8(w:aU)(a:fT):topRun kj pw w 11 (W (M 6)) 2 (K5 w a).abs ⟨doneF fD,iq bd fk,⟨425,0,444,15⟩,[nC ⟨0,0,0,0⟩]⟩=W (mC w a).abs:=by rwa[oF];kernel_rfl
theorem R9:L0++R0=bd:=q5 _ _
theorem Sa:L1++R1=R0:=q5 _ _
theorem Sb:L2++R2=R1:=q5 _ _
theorem Se:L3++R3=R2:=q5 _ _
theorem Sg:L4++([]:List dj)=R3:=![]
theorem Sh(w:aU)(a:fT):topRun kj pw w 11 (W (M 6)) (12+(1+(1486+(839+(1061+(90+(1379+2))))))) ⟨nB w.params,⟨[]⟩,vZ,v7,a⟩ (topStub pw)=W (mC w a).abs :=
 go_top (RU w a) (piece_block (RV w a) (R9▸(v8 (rest:=R0) (v9 (RW w a)) (Sa▸(v8 (rest:=R1) (v9 (RX w a)) (Sb▸(v8 (rest:=R2) (v9 (RY w a)) (Se▸(v8 (rest:=R3) (v9 (R6 w a)) (Sg▸(v8 (rest:=[]) (v9 (R7 w a)) (piece_nil (R8 w a)))))))))))))
end Pq
end
section
set_option maxHeartbeats 0
namespace Pq
def q0:ki:={pw with main:={pw.main with body:=[bd.getD 39 jU]}}
noncomputable def wG:List bu:=["_wall", "HeapError", "TermFault", "RuleFault", "is_op", "is_variable", "variables", "parts", "Bank", "program", "Machine", "Unions", "Heap", "whole_of", "Rule", "A", "B", "C", "named_value", "laws_of", "Ring", "Truths", "Lists", "Sets", "_law_draw", "_law_theory", "_law_worths", "_law_heap", "_law_names", "_law_stands", "_law_tried", "_law_filled"]
def H1(P:dg):b0:=absHeap (tS P) 670 {}
theorem Si:∀w:aU,(fencedOpening kj pw w 12000).map (λs=>(s.heap,s.gens,s.drawn,s.toks))=W (nB w.params,Array.mk [],vZ,v7) :=
 boot_open (![]) (![]) (λs=>![])
theorem Sj:∀w:aU,((nB w.params).isNs lu&&(Array.mk []:Array GenState).size==0,(nB w.params).objs.size,(nB w.params).nsMap lu "__annotations__")=(U,11,W (M 6)):=λw=>![]
theorem Sk(w:aU)(a:fT):topRun kj pw w 11 (W (M 6)) (12+(1+(1486+(839+(1061+(90+(1379+2))))))) ⟨nB w.params,⟨[]⟩,vZ,v7,a⟩ (topStub pw)=W ⟨H1 w.params,(mC w a).gens,(mC w a).drawn,(mC w a).toks,a⟩:=Sh w a
end Pq
end
section
set_option maxHeartbeats 0
namespace Pq
theorem l1(w:aU)(a:fT):(staticsOk (importedModules pw.main.body) (nB w.params) (H1 w.params)&&namesBound pw (H1 w.params)&&gensDone ⟨H1 w.params,(mC w a).gens,(mC w a).drawn,(mC w a).toks,a⟩&&laidKept (nB w.params) (H1 w.params))=U:=![]
theorem l2(w:aU)(a:fT):openSeen q0 wG (importedModules pw.main.body) (λz=>U) U ⟨H1 w.params,(mC w a).gens,(mC w a).drawn,(mC w a).toks,a⟩=openGood q0 wG:=by
 rwa[PySem.W.Fast.te4187177175401517315];kernel_rfl
theorem Sl:LeftO pw q0 wG (λz=>U) (λs=>s.heap) (λw=>H1 w.params) 12000 :=
 LeftO.of_pieces (H₀:=nB) (H₁:=H1) (gs₀:=⟨[]⟩) (d₀:=vZ) (k₀:=v7) Si Sj Sk (![]) (λw=>funext λa=>iQ (l1 w a) (iQ (l2 w a) rfl))
def dk:DefRec×List (bu×yn):=(defOf q0 "law").getD ⟨⟨"",jU,[],jU,jU⟩,[]⟩
theorem Sm:defOf q0 PySem.Challenge.rw_pq0096_01.row.name=W (dk.1,dk.2):=![]
theorem Sn:pw.theDef PySem.Challenge.rw_pq0096_01.row.name=W (dk.1.params,dk.1.body,dk.1.scope):=![]
theorem So:kwWritten? dk.1.params.kwonlyargs dk.1.params.kw_defaults=W dk.2:=![]
theorem Sp:PySem.Challenge.rw_pq0096_01.wellSaid=U:=![]
theorem Sq:(chainsOk q0&&opensWell pw&&(frees PySem.Challenge.rw_pq0096_01.row.toRowW&&PySem.Challenge.rw_pq0096_01.row.within.isEmpty))=U:=![]
theorem Sr:pw.bare:=⟨rfl,rfl,rfl,rfl,rfl,![]⟩
theorem Ss:PySem.Challenge.rw_pq0096_01.row.toRowW.promised:=⟨[.list []],![],![]⟩
end Pq
namespace Pq
def mD(w:aU)(h:b0):Prop:=∀b o,(H1 w.params).get? b=W o->h.get? b=W o
theorem Su(a:WalkO q0 wG (λz z=>True) mD PySem.Challenge.rw_pq0096_01.row.toRowW dk.1 dk.2 λf d=>b9 f d):PySem.Challenge.rw_pq0096_01.Holds:=by
 show holds_law Sp λc=>?_
 show holds_open (q:=q0) (loose:=wG) (Xt:=λz=>U) (XP:=λz z=>True) (Yf:=λs=>s.heap) (Ya:=λw=>H1 w.params) (YP:=mD) (N:=12000)
  Sl (λw s e b o h=>by have g:s.heap=H1 w.params:=e;rwa[g];show h) (λw h i y k b o e=>k b o (y b o e)) (λz z=>trivial) (λz z z z z=>trivial)
  Sm Sn So (λs z=>recFacts_nil rfl) rfl c Sq Sr Ss a
end Pq
end
namespace Pq
set_option genInjectivity true in
inductive D where
 |none|bool (b:Bool)|int (i:Int)|str (s:bu)|tup (l:List D)|lst (l:List D)|ji (l:List (D×D))|ins (C:Nat) (l:List (Nat×D))|obj (n:Nat)|val (v:az)
 deriving Inhabited
end Pq
open Pq.D renaming obj->ak,int->aq,tup->aw,lst->ay,bool->aM,ins->bh,str->bl,casesOn->bJ,none->cg,ji->dG
namespace Pq
theorem D.ind{P:D->Prop}{PL:List D->Prop}{PE:List (D×D)->Prop}{PA:List (Nat×D)->Prop}(m:P cg)(o:∀b,P (aM b))(t:∀i,P (aq i))(u:∀s,P (bl s))(w:∀l,PL l->P (aw l))(x:∀l,PL l->P (ay l))(y:∀l,PE l->P (dG l))(z:∀C l,PA l->P (bh C l))(A:∀n,P (ak n))(B:∀v,P (.val v))
(q:PL [])(f:∀d l,P d->PL l->PL (d::l))(g:PE [])(c:∀k d l,P k->P d->PE l->PE ((k,d)::l))(j:PA [])(e:∀k d l,P d->PA l->PA ((k,d)::l)):(∀d,P d)/\(∀l,PL l)/\(∀l,PE l)/\∀l,PA l :=
 have a:∀d,P d:=@D.rec P PL PE PA (λp=>P p.1/\P p.2) (λp=>P p.2) m o t u w x y z A B q f g (λp l r Q=>c p.1 p.2 l r.1 r.2 Q) j (λp l r Q=>e p.1 p.2 l r Q) (λZ Z h k=>⟨h,k⟩) (λZ Z h=>h)
 ⟨a,λl=>l.rec q λd l h=>f d l (a d) h,λl=>l.rec g λp l h=>c p.1 p.2 l (a p.1) (a p.2) h,λl=>l.rec j λp l h=>e p.1 p.2 l (a p.2) h⟩
theorem ff{P:Prop}(h:Y=U):P:=nomatch h
theorem nn{a:b}{P:Prop}(h:N=W a):P:=nomatch h
theorem iff[Decidable c](h:(if c then a else N)=W b):c/\a=W b:=by
 by_cases k:c
 .rw [aJ k]at h;show⟨k,h⟩
 .rw [aL k]at h;show nn h
theorem bW{o:Option b}{p:b->Bool}(h:o.any p=U){P:Prop}(k:∀a,o=W a->p a=U->P):P:=by
 induction o with
 |none=>show ff h
 |some a=>show k a rfl h
theorem jj(h:o.bind f=W b):∃a,o=W a/\f a=W b:=e8.mp h
theorem fX(h:o.map f=W b):∃a,o=W a/\f a=b:=ej.mp h
theorem au(h:(a&&b)=U):a=U/\b=U:=by rwa[eu]at h
theorem dN(h:a=U)(k:b=U):(a&&b)=U:=![h,k]
mutual
noncomputable def D.beq:D->D->Bool
 |.none,y=>match y with|.none=>U|_=>Y
 |.bool a,y=>match y with|.bool b=>a==b|_=>Y
 |.int a,y=>match y with|.int b=>I (a=b)|_=>Y
 |.str a,y=>match y with|.str b=>I (a=b)|_=>Y
 |.tup a,y=>match y with|.tup b=>D.wH a b|_=>Y
 |.lst a,y=>match y with|.lst b=>D.wH a b|_=>Y
 |.ji a,y=>match y with|.ji b=>D.z9 a b|_=>Y
 |.ins c a,y=>match y with|.ins d b=>I (c=d)&&D.Aa a b|_=>Y
 |.obj a,y=>match y with|.obj b=>I (a=b)|_=>Y
 |.val a,y=>match y with|.val b=>I (a=b)|_=>Y
termination_by structural x=>x
noncomputable def D.wH:List D->List D->Bool
 |[],y=>match y with|[]=>U|_=>Y
 |a::x,y=>match y with|b::y=>D.beq a b&&D.wH x y|_=>Y
termination_by structural x=>x
noncomputable def D.z9:List (D×D)->List (D×D)->Bool
 |[],y=>match y with|[]=>U|_=>Y
 |(a,c)::x,y=>match y with|(b,d)::y=>D.beq a b&&(D.beq c d&&D.z9 x y)|_=>Y
termination_by structural x=>x
noncomputable def D.Aa:List (Nat×D)->List (Nat×D)->Bool
 |[],y=>match y with|[]=>U|_=>Y
 |(a,c)::x,y=>match y with|(b,d)::y=>I (a=b)&&(D.beq c d&&D.Aa x y)|_=>Y
termination_by structural x=>x
end
theorem D.Sv:(∀a b:D,D.beq a b=U->a=b)/\(∀a b,D.wH a b=U->a=b)/\(∀a b,D.z9 a b=U->a=b)/\∀a b,D.Aa a b=U->a=b:=by
 show D.ind ?_ ?_ ?_ ?_ ?_ ?_ ?_ ?_ ?_ ?_ ?_ ?_ ?_ ?_ ?_ ?_
 .intro b h;induction b using bJ<;>first|rfl|show ff h
 .intro a b h;induction b using bJ<;>first|show ff h|show aI aM (bX.mp h)
 .intro a b h;induction b using bJ<;>first|show ff h|show aI aq (bS h)
 .intro a b h;induction b using bJ<;>first|show ff h|show aI bl (bS h)
 .intro a i b h;induction b using bJ<;>first|show ff h|show aI aw (i _ h)
 .intro a i b h;induction b using bJ<;>first|show ff h|show aI ay (i _ h)
 .intro a i b h;induction b using bJ<;>first|show ff h|show aI dG (i _ h)
 .intro c a i b h;induction b using bJ<;>first|show ff h|show congr (aI bh (bS (au h).1)) (i _ (au h).2)
 .intro a b h;induction b using bJ<;>first|show ff h|show aI ak (bS h)
 .intro a b h;induction b using bJ<;>first|show ff h|show aI D.val (bS h)
 .intro b h;induction b using bH<;>first|rfl|show ff h
 .intro d l i j b h;induction b using bH<;>first|show ff h|show congr (aI y5 (i _ (au h).1)) (j _ (au h).2)
 .intro b h;induction b using bH<;>first|rfl|show ff h
 .intro k d l i j m b h;induction b using bH<;>first|show ff h|show congr (aI y5 (iQ (i _ (au h).1) (j _ (au (au h).2).1))) (m _ (au (au h).2).2)
 .intro b h;induction b using bH<;>first|rfl|show ff h
 .intro k d l i j b h;induction b using bH<;>first|show ff h|show congr (aI y5 (iQ (bS (au h).1) (i _ (au (au h).2).1))) (j _ (au (au h).2).2)
theorem D.Sw:(∀a:D,D.beq a a=U)/\(∀a,D.wH a a=U)/\(∀a,D.z9 a a=U)/\∀a,D.Aa a a=U :=
 D.ind rfl (λz=>beq_self_eq_true _) (λz=>dA rfl) (λz=>dA rfl) (λz h=>h) (λz h=>h) (λz h=>h) (λz z h=>dN (dA rfl) h) (λz=>dA rfl) (λz=>dA rfl)
  rfl (λz z h k=>dN h k) rfl (λz z z h k l=>dN h (dN k l)) rfl (λz z z k l=>dN (dA rfl) (dN k l))
noncomputable instance:DecidableEq D:=λa b=>if h:D.beq a b=af then .isTrue (D.Sv.1 a b h)else .isFalse λe=>h (e▸D.Sw.1 a)
inductive O where
 |list (l:List D)
 |dict (l:List (D×D))
 |inst (C:Nat) (l:List (Nat×D))
 deriving DecidableEq,Inhabited
end Pq
open Pq.O renaming list->aO,dict->a8,inst->cz
namespace Pq
noncomputable abbrev St:=List O
noncomputable def Sx:List String:=["nodes", "numbers", "weights", "depths", "heap", "above", "lots", "merged", "bank", "unions", "edges", "forest", "known", "waiting", "name", "left", "right", "needs", "n", "whole"]
def attr(k:Nat):bu:=a0 (Sx.getD k "")
theorem Sy:(bE 20).all (λi=>(bE 20).all λj=>i==j||I (attr i≠attr j))=U:=by decide +kernel
theorem Sz(b:i<20)(c:j<20)(h:attr i=attr j):i=j:=by
 have:=bQ.mp Sy i (fM.mpr b)
 have:=bQ.mp this j (fM.mpr c)
 rw[iI,bX,decide_eq_true_eq]at this
 rcases this with a|a
 .show a
 .show aF h a
mutual
noncomputable def cj(w:aU):D->Int
 |.int i=>hashInt i
 |.str s=>hashStr w s
 |.tup l=>reduceHash (Kq (qb w l))
 |.none=>0xFCA86420
 |_=>0
noncomputable def qb(w:aU):List D->List Int
 |[]=>[]
 |d::r=>cj w d::qb w r
end
structure G where
 θ:List (aR×aR)
 Z:List aR
noncomputable def G.Ft(g:G)(a:aR):Prop:=∃p∈g.θ,a=p.1\/a=p.2
noncomputable def G.Mt(g:G)(a:aR):Prop:=g.Ft a\/a∈g.Z
noncomputable abbrev cP(a:Array K)(n:Nat):cC:={cls:= aZ "tuple",data:=.seq a n}
noncomputable abbrev bO(vs:Array K)(n:Nat):cC:={cls:= aZ "list",data:=.seq vs n}
mutual
noncomputable def R(w:aU)(g:G)(h:b0):K->D->Prop
 |v,cg=>v= aN
 |v,aM b=>v= eh b
 |v,aq i=>∃t,v= bL i t
 |v,bl s=>∃t,v= fU s t/\gJ s=U
 |v,aw j=>∃a c n,v= M a/\h.get? a=W (cP c n)/\ ¬g.Mt a/\c.size<=2^20/\RL w g h c.toList j
 |v,ay j=>∃a c n,v= M a/\h.get? a=W (bO c n)/\ ¬g.Mt a/\c.size<=2^20/\RL w g h c.toList j
 |v,dG e=>∃a d n,v= M a/\h.get? a=W (eb d n)/\(¬g.Mt a/\(a==jw)=Y)/\d.length<=2^20/\(e.map (·.1)).Nodup/\RE w g h d e
 |v,bh C l=>∃a f d n,v= M a/\h.get? a=W (ik C f)/\h.get? f=W (eb d n)/\ ¬g.Mt a/\ ¬g.Mt f/\RA w g h d l
 |v,ak n=>∃a f,v= M a/\g.θ[n]?=W (a,f)
 |_,.val _=>False
termination_by structural _ d=>d
noncomputable def RL(w:aU)(g:G)(h:b0):List K->List D->Prop
 |a,[]=>a=[]
 |a,d::b=>∃v r,a=v::r/\R w g h v d/\RL w g h r b
termination_by structural _ d=>d
noncomputable def RE(w:aU)(g:G)(h:b0):List fg->List (D×D)->Prop
 |a,[]=>a=[]
 |a,(c,d)::b=>∃k v r,a=⟨cj w c,k,v⟩::r/\R w g h k c/\R w g h v d/\RE w g h r b
termination_by structural _ d=>d
noncomputable def RA(w:aU)(g:G)(h:b0):List fg->List (Nat×D)->Prop
 |a,[]=>a=[]
 |a,(k,d)::l=>∃t v r,a=⟨pV w.params (attr k),fU (attr k) t,v⟩::r/\k<20/\R w g h v d/\RA w g h r l
termination_by structural _ d=>d
end
section
variable{w:aU}{g:G}{h:b0}
theorem R.none:R w g h aN cg:=rfl
theorem R.bool(b:Bool):R w g h (eh b) (aM b):=rfl
theorem R.int(i:Int)(t:Tok):R w g h (bL i t) (aq i):=⟨t,rfl⟩
theorem R.str(s:bu)(t:Tok)(ok:gJ s=U):R w g h (fU s t) (bl s):=⟨t,rfl,ok⟩
theorem R.tup(b:h.get? a=W (cP vs n))(c:¬g.Mt a)(d:vs.size<=2^20)(e:RL w g h vs.toList ds):R w g h (M a) (aw ds):=x3 a vs n ⟨rfl,b,c,d,e⟩
theorem R.lst(b:h.get? a=W (bO vs n))(c:¬g.Mt a)(d:vs.size<=2^20)(e:RL w g h vs.toList ds):R w g h (M a) (ay ds):=x3 a vs n ⟨rfl,b,c,d,e⟩
theorem R.ji{a:aR}{c:List fg}{n:Nat}{b:List (D×D)}(d:h.get? a=W (eb c n))(e:¬g.Mt a/\(a==jw)=Y)(f:c.length<=2^20)(i:(b.map (·.1)).Nodup)(j:RE w g h c b):R w g h (M a) (dG b):=x3 a c n ⟨rfl,d,e,f,i,j⟩
theorem R.ins(e:h.get? a=W (ik C b))(f:h.get? b=W (eb c n))(i:¬g.Mt a)(d:¬g.Mt b)(j:RA w g h c l):R w g h (M a) (bh C l):=x4 a b c n ⟨rfl,e,f,i,d,j⟩
theorem R.obj(e:g.θ[n]?=W (a,dx)):R w g h (M a) (ak n):=x2 a dx ⟨rfl,e⟩
theorem RL.nil:RL w g h [] []:=rfl
theorem RL.cons(a:R w g h v d)(b:RL w g h c ds):RL w g h (v::c) (d::ds):=x2 v c ⟨rfl,a,b⟩
theorem RE.nil:RE w g h [] []:=rfl
theorem RE.cons{e f:D}(a:R w g h k e)(b:R w g h v f)(c:RE w g h es d):RE w g h (⟨cj w e,k,v⟩::es) ((e,f)::d):=x3 k v es ⟨rfl,a,b,c⟩
theorem RA.nil:RA w g h [] []:=rfl
variable{g':G}{h':b0}
theorem R.Ab(K:∀a o,h.get? a=W o->¬g.Mt a->h'.get? a=W o/\ ¬g'.Mt a)(T:∀(n:Nat) p,g.θ[n]?=W p->g'.θ[n]?=W p):
 (∀d v,R w g h v d->R w g' h' v d)/\(∀d v,RL w g h v d->RL w g' h' v d)/\(∀d v,RE w g h v d->RE w g' h' v d)/\∀d v,RA w g h v d->RA w g' h' v d :=
 D.ind (λZ r=>r) (λZ Z r=>r) (λZ Z r=>r) (λZ Z r=>r) (λZ i Z r=>k4 r λa s n e l f u q=>x3 a s n ⟨e,(K _ _ l f).1,(K _ _ l f).2,u,i _ q⟩) (λZ i Z r=>k4 r λa s n e l f u q=>x3 a s n ⟨e,(K _ _ l f).1,(K _ _ l f).2,u,i _ q⟩)
  (λZ i Z r=>z2 r λa s n e l f u A q=>x3 a s n ⟨e,(K _ _ l f.1).1,⟨(K _ _ l f.1).2,f.2⟩,u,A,i _ q⟩) (λZ Z i Z r=>z4 r λa y B n e l z f x q=>x4 a y B n ⟨e,(K _ _ l f).1,(K _ _ z x).1,(K _ _ l f).2,(K _ _ z x).2,i _ q⟩)
  (λZ Z r=>jW r λa y e t=>x2 a y ⟨e,T _ _ t⟩) (λZ Z r=>r) (λZ r=>r) (λZ Z i j Z r=>eX r λv r e a b=>x2 v r ⟨e,i _ a,j _ b⟩) (λZ r=>r) (λZ Z Z i j m Z r=>kZ r λk v r e a b c=>x3 k v r ⟨e,i _ a,j _ b,m _ c⟩) (λZ r=>r) (λZ Z Z i j Z r=>kZ r λt v r e Q a b=>x3 t v r ⟨e,Q,i _ a,j _ b⟩)
section
variable(K:∀a o,h.get? a=aa o->¬g.Mt a->h'.get? a=aa o/\ ¬g'.Mt a)(T:∀(n:Nat) p,g.θ[n]?=aa p->g'.θ[n]?=aa p)
include K T
theorem R.mono :R w g h v d->R w g' h' v d:=(R.Ab K T).1 _ _
theorem RL.mono :RL w g h v d->RL w g' h' v d:=(R.Ab K T).2.1 _ _
theorem RE.mono :RE w g h v d->RE w g' h' v d:=(R.Ab K T).2.2.1 _ _
theorem RA.mono :RA w g h v d->RA w g' h' v d:=(R.Ab K T).2.2.2 _ _
end
end
structure Ext (fr:List aR) (g:G) (h:b0) (g':G) (h':b0):Prop where
 z:g'.Z=g.Z
 pre:∃more,g'.θ=g.θ++more/\∀p∈more,h.objs.size<=p.1/\h.objs.size<=p.2
 keep:∀b o,¬g.Ft b->b∉fr->h.get? b=aa o->h'.get? b=aa o
 size:h.objs.size<=h'.objs.size
theorem Ext.refl(a:List aR)(g:G)(h:b0):Ext a g h g h:=⟨rfl,⟨[],by simp,λz h=>aF h bc⟩,λz z z z e=>e,bG _⟩
theorem Ext.ft{j:List aR}(x:Ext j g h b c)(f:b.Ft a):g.Ft a\/h.objs.size<=a:=by
 show aV (f) λp d e=>?_
 show aV (x.pre) λi k l=>?_
 rw[k]at d
 rcases d9.mp d with d|d
 .show aY ⟨p,d,e⟩
 .have:=l p d
  clear f;rcases e with rfl|rfl
  .show aW this.1
  .show aW this.2
theorem Ext.mt{e:List aR}(x:Ext e g h b c)(d:b.Mt a):g.Mt a\/h.objs.size<=a:=by
 rcases d with d|d
 .rcases x.ft d with q|q
  .show aY (aY q)
  .show aW q
 .show aY (aW (x.z▸d))
theorem Ext.trans{fr:List aR}(x:Ext fr g h d h')(y:Ext fr d h' a c):Ext fr g h a c:=by
 show aV (x.pre) λl m n=>?_
 show aV (y.pre) λr s i=>?_
 show⟨y.z.trans x.z,⟨l++r,![s,m,iM],λp f=>?_⟩,λb o j k e=>?_,P x.size y.size⟩
 .rcases d9.mp f with f|f
  .show n p f
  .show ⟨P x.size (i p f).1,P x.size (i p f).2⟩
 .show y.keep b o (λq=>?_) k (x.keep b o j k e)
  rcases x.ft q with q|q
  .show j q
  .show cq _ (bg (dt e) q)
theorem Ext.weaken{i f:List aR}(x:Ext i g h c d)(j:∀a∈i,a∈f):Ext f g h c d :=
 ⟨x.z,x.pre,λb o k l e=>x.keep b o k (λq=>l (j b q)) e,x.size⟩
section
variable{w:aU}{fr:List aR}{g g':G}{h h':b0}(x:Ext fr g h g' h')(jH:∀a∈fr,a∈g.Z)
include x jH
theorem Ext.K(a:aR)(o:cC)(c:h.get? a=W o)(b:¬g.Mt a):h'.get? a=W o/\ ¬g'.Mt a :=
 ⟨x.keep _ _ (λq=>b (aY q)) (λq=>b (aW (jH _ q))) c,λq=>(x.mt q).elim b λz=>cq _ (bg (dt c) z)⟩
omit jH in
theorem Ext.T(n:Nat)(p:aR×aR)(e:g.θ[n]?=W p):g'.θ[n]?=W p:=by
 show aV (x.pre) λa b z=>?_
 rwa[b,fB (cD.mp e).1]
 show e
theorem R.ext :R w g h v d->R w g' h' v d:=R.mono (x.K jH) x.T
theorem RL.ext :RL w g h v d->RL w g' h' v d:=RL.mono (x.K jH) x.T
end
noncomputable def OR(w:aU)(g:G)(h:b0)(p:aR×aR):O->Prop
 |.list d=>∃c n,p.2=p.1/\h.get? p.1=W (bO c n)/\c.size<=2^20/\RL w g h c.toList d
 |.dict b=>∃a n,p.2=p.1/\h.get? p.1=W (eb a n)/\a.length<=2^20/\(b.map (·.1)).Nodup/\RE w g h a b
 |.inst C l=>∃a n,p.1≠p.2/\h.get? p.1=W (ik C p.2)/\h.get? p.2=W (eb a n)/\RA w g h a l
structure Sat (w:aU) (g:G) (h:b0) (σ:St):Prop where
 len:σ.length=g.θ.length
 obj:∀(n:Nat)(p:aR×aR)(o:O),g.θ[n]?=aa p->σ[n]?=aa o->OR w g h p o
 apart:g.θ.Pairwise λp q=>p.1≠q.1/\p.1≠q.2/\p.2≠q.1/\p.2≠q.2
 fz:∀a,g.Ft a->a∉g.Z
mutual
noncomputable def D.py:D->Option lx
 |.none=>W .none
 |.bool b=>W (kX b)
 |.int i=>W (.int i)
 |.str s=>W (.str s)
 |.tup l=>(D.fY l).map .tuple
 |.lst l=>(D.fY l).map wc
 |_=>N
noncomputable def D.fY:List D->Option (List lx)
 |[]=>W []
 |d::r=>match D.py d,D.fY r with
  |some x,W y=>W (x::y)
  |_,_=>N
end
theorem wI(e:D.fY (d::a)=W b):∃p q,b=p::q/\d.py=W p/\D.fY a=W q:=by
 have e:(match d.py,D.fY a with|some x,W y=>W (x::y)|_,_=>N)=W b:=e
 generalize f:d.py=c;induction c with
 |none=>rw[f]at e;show nn e
 |some p=>
  generalize g:D.fY a=c;induction c with
  |none=>rw[f,g]at e;show nn e
  |some q=>rw[f,g]at e;show x2 p q ⟨(L e).symm,rfl,rfl⟩
theorem R.K6 :(∀(d:D)(v:K)(p:lx),R w g h v d->d.py=W p->(∃f,Reads h v p f)/\p.canLay0=U) /\
 (∀(d:List D)(v:List K)(p:List lx),RL w g h v d->D.fY d=W p->(∃f,ReadsAll h v p f)/\JM p=U)/\(∀_:List (D×D),True)/\∀_:List (Nat×D),True:=by
 show D.ind ?_ ?_ ?_ ?_ ?_ ?_ ?_ ?_ ?_ ?_ ?_ ?_ trivial (λZ Z Z Z Z Z=>trivial) trivial λZ Z Z Z Z=>trivial
 .rintro Z p rfl e;rwa[<-L e];show⟨⟨_,.none⟩,rfl⟩
 .rintro b Z p rfl e;rwa[<-L e];show⟨⟨_,.bool b⟩,rfl⟩
 .rintro i Z p ⟨t,rfl⟩ e;rwa[<-L e];show⟨⟨_,.int i t⟩,rfl⟩
 .rintro s Z p ⟨t,rfl,k⟩ e;rwa[<-L e];show⟨⟨_,.str s t⟩,k⟩
 .rintro l i Z p ⟨a,u,n,rfl,m,Z,Z,o⟩ e
  obtain⟨x,q,rfl⟩:=ej.mp e
  obtain⟨⟨f,r⟩,c⟩:=i _ _ o q
  show⟨⟨_,.tuple m rfl rfl r⟩,c⟩
 .rintro l i Z p ⟨a,u,n,rfl,m,Z,Z,o⟩ e
  obtain⟨x,q,rfl⟩:=ej.mp e
  obtain⟨⟨f,r⟩,c⟩:=i _ _ o q
  show⟨⟨_,.list m rfl rfl r⟩,c⟩
 .intro Z Z Z Z Z e;show nn e
 .intro Z Z Z Z Z Z e;show nn e
 .intro Z Z Z Z e;show nn e
 .intro Z Z Z Z e;show nn e
 .rintro Z p rfl e;rwa[<-L e];show⟨⟨_,.nil⟩,rfl⟩
 .rintro d l i j Z p ⟨v,r,rfl,a,b⟩ e
  show my p (wI e) λH I y z=>?_
  obtain⟨⟨f,A⟩,c⟩:=i _ _ a y
  obtain⟨⟨J,B⟩,Q⟩:=j _ _ b z
  show⟨⟨_,.cons A B⟩,dN c Q⟩
theorem R.reads :R w g h v d->d.py=W p->(∃a,Reads h v p a)/\p.canLay0=U:=R.K6.1 _ _ _
theorem RL.reads :RL w g h v d->D.fY d=W p->(∃a,ReadsAll h v p a)/\JM p=U:=R.K6.2.1 _ _ _
mutual
noncomputable def K7:lx->D
 |.bool b=> aM b
 |.int i=> aq i
 |.str s=> bl s
 |.tuple l=> aw (Ac l)
 |.list l=> ay (Ac l)
 |_=> cg
termination_by structural x=>x
noncomputable def Ac:List lx->List D
 |[]=>[]
 |p::r=>K7 p::Ac r
termination_by structural x=>x
end
theorem D.K8:(∀(d:D)(p:lx),d.py=W p->K7 p=d)/\(∀(d:List D)(p:List lx),D.fY d=W p->Ac p=d)/\(∀_:List (D×D),True)/\∀_:List (Nat×D),True:=by
 show D.ind ?_ ?_ ?_ ?_ ?_ ?_ ?_ ?_ ?_ ?_ ?_ ?_ trivial (λz z z z z z=>trivial) trivial λz z z z z=>trivial
 .intro p e;rwa[<-L e];rfl
 .intro b p e;rwa[<-L e];rfl
 .intro b p e;rwa[<-L e];rfl
 .intro b p e;rwa[<-L e];rfl
 .intro l i p e
  show bR (ej.mp e) λf c a=>?_;clear e;obtain rfl:=a
  show aI aw (i _ c)
 .intro l i p e
  show bR (ej.mp e) λf c a=>?_;clear e;obtain rfl:=a
  show aI ay (i _ c)
 .intro z z z e;show nn e
 .intro z z z z e;show nn e
 .intro z z e;show nn e
 .intro z z e;show nn e
 .intro p e;rwa[<-L e];rfl
 .intro d l i j p e
  show my p (wI e) λk m g h=>?_
  show congr (aI y5 (i _ g)) (j _ h)
theorem R.EC(r:R w g h v x)(i:R w d h v y)(j:x.py.isSome=U)(k:y.py.isSome=U):x=y:=by
 obtain⟨p,e⟩:=fF.mp j
 obtain⟨q,f⟩:=fF.mp k
 obtain⟨⟨z,a⟩,c⟩:=r.reads e
 obtain⟨⟨z,b⟩,z⟩:=i.reads f
 rwa[<-D.K8.1 _ _ e,<-D.K8.1 _ _ f,((a.unique _ _ b).1)]
mutual
noncomputable def D.bF:D->Bool
 |.int _=>U
 |.str _=>U
 |.tup l=>D.bT l
 |.none=>U
 |_=>Y
noncomputable def D.bT:List D->Bool
 |[]=>U
 |d::r=>d.bF&&D.bT r
end
mutual
noncomputable def D.kd:D->Nat
 |.tup l=>D.du l+1
 |_=>0
noncomputable def D.du:List D->Nat
 |[]=>0
 |d::r=>hA d.kd (D.du r)
end
mutual
noncomputable def D.draws:D->Nat
 |.tup l=>D.Ad l+1
 |_=>1
noncomputable def D.Ad:List D->Nat
 |[]=>0
 |d::r=>d.draws+D.Ad r
end
theorem D.nJ{P:D->Prop}{PL:List D->Prop}(b:P cg)(e:∀i,P (aq i))(f:∀s,P (bl s))(g:∀l,D.bT l=U->PL l->P (aw l))(k:PL [])(c:∀d l,d.bF=U->D.bT l=U->P d->PL l->PL (d::l)):(∀d:D,d.bF=U->P d)/\∀l,D.bT l=U->PL l :=
 have a:=D.ind (P:=λd=>d.bF=U->P d) (PL:=λl=>D.bT l=U->PL l) (PE:=λz=>True) (PA:=λz=>True) (λz=>b) (λz=>ff) (λi z=>e i) (λs z=>f s) (λl i h=>g l h (i h)) (λz z=>ff) (λz z=>ff) (λz z z=>ff) (λz=>ff) (λz=>ff)
  (λz=>k) (λd l i j h=>c d l (au h).1 (au h).2 (i (au h).1) (j (au h).2)) trivial (λz z z z z z=>trivial) trivial λz z z z z=>trivial
 ⟨a.1,a.2.1⟩
theorem D.K9:(∀d:D,d.bF=U->∃p,d.py=W p/\p.depth=d.kd)/\∀d:List D,D.bT d=U->∃p,D.fY d=W p/\pW p=D.du d :=
 D.nJ ⟨_,rfl,rfl⟩ (λz=>⟨_,rfl,rfl⟩) (λz=>⟨_,rfl,rfl⟩) (λl z ⟨a,e,k⟩=>⟨.tuple a,aI (gj _) e,aI (· +1) k⟩) ⟨_,rfl,rfl⟩
  λd l z z ⟨p,e,k⟩ ⟨a,b,c⟩=>⟨p::a,by show(match d.py,D.fY l with|some x,W y=>W (x::y)|_,_=>N)=_;rwa[e,b],by show hA p.depth (pW a)=hA d.kd (D.du l);rwa[k,c]⟩
theorem D.tT:∀d:D,d.bF=U->∃p,d.py=W p/\p.depth=d.kd:=D.K9.1
theorem D.Lb:∀d:List D,D.bT d=U->∃p,D.fY d=W p/\pW p=D.du d:=D.K9.2
theorem R.inj(r:R w g h v x)(b:R w a h v y)(c:x.bF=U)(d:y.bF=U):x=y:=by
 show aV (D.tT x c) λp e z=>?_
 show aV (D.tT y d) λq f z=>?_
 show r.EC b (![e]) (![f])
section
variable{prog:ki}{w:aU}{g:G}
theorem R.SA{E:K->H->Prop}:(∀d:D,d.bF=U->∀{A:bK}{v:K}{s:H}{Q:Int->H->Prop},R w g s.heap v d->A.units+8*d.kd<cv ->
 Q (cj w d) {s with toks:=s.toks+d.draws}->V (ar prog w) A (pyHash v) Q E s) /\
 (∀f:List D,D.bT f=U->∀{A:bK}{m:List K}{s:H}{Q:Array Int->H->Prop},RL w g s.heap m f->A.units+8*D.du f<cv ->
 ∀(b:Array Int),Q (b++(qb w f).toArray) {s with toks:=s.toks+D.Ad f}->V (ar prog w) A (lJ m b λx r=>do let h <-pyHash x;bx (iR (r.push h))) Q E s):=by
 show D.nJ ?_ ?_ ?_ ?_ ?_ ?_
 .rintro A Z s Q rfl c h
  show pyHash_slot (T:= "NoneType") rfl F.slot_NoneType_hash F.entry_NoneType_hash (F.args_NoneType_hash_1 _) (Cm _) (aW (by assumption)) (J (aD (J (Cn (aD (x2 _ _ ⟨rfl,h⟩))))))
 .rintro i A Z s Q ⟨t,rfl⟩ Z h;show wpAny_pyHash_int h
 .rintro x A Z s Q ⟨t,rfl,Z⟩ Z h;show wpAny_pyHash_str h
 .rintro l Z p A Z s Q ⟨a,m,n,rfl,o,Z,Z,q⟩ c h
  have u:A.units+(8*(D.du l+1))<cv:=c
  show pyHash_slot (T:= "tuple") ⟨_,o,rfl⟩ JV F.entry_tuple_hash (F.args_tuple_hash_1 _) (Cm _) (aW (bY (ew ..) ‹_›)) ?_
  show V _ _ (zN (M a)>>=_) _ _ s
  show J (Cp o rfl (J ?_))
  rwa[<-zF]
  show p q (lm (k:=0) c) #[] ?_
  show V _ _ (retInt (Kq (#[]++(qb w l).toArray:Array Int).toList)) _ _ _
  rwa[JO]
  show J (Cn (aD (x2 _ _ ⟨rfl,h⟩)))
 .rintro A Z s Q rfl Z b h
  show aD (by rwa[show(qb w []).toArray=#[]from rfl,Array.append_empty]at h)
 .rintro d l Z Z i j A Z s Q ⟨v,r,rfl,y,z⟩ c b h
  have c:A.units+8*hA d.kd (D.du l)<cv:=c
  rwa[ny]
  show J (J (i y (lc (k:=0) c) (aD ?_)))
  show j (s:={s with toks:=s.toks+d.draws}) z (ld (k:=0) c) (b.push (cj w d)) ?_
  have e:b.push (cj w d)++(qb w l).toArray=b++(qb w (d::l)).toArray:=Array.ext' (by show _=(b++(cj w d::qb w l).toArray).toList;simp)
  rwa[e]
  have h:Q _ {s with toks:=s.toks+(d.draws+D.Ad l)}:=h
  rwa[<-sX]at h
theorem R.hash{E:K->H->Prop}(r:R w g s.heap v d)(k:d.bF=U):b.units+8*d.kd<cv ->
 a (cj w d) {s with toks:=s.toks+d.draws}->V (Z prog w) b (pyHash v) a E s:=R.SA.1 d k r
end
theorem wJ(h:o.map f=W p):∃l,o=W l/\p=f l:=eG h λl a b=>⟨l,a,b.symm⟩
theorem oM(h:a=Y)(k:¬p):a=U↔p:=⟨λe=>ff (h▸e),λe=>aF e k⟩
theorem D.Lc:(∀x:D,x.bF=U->∀(y:D)(p q:lx),y.bF=U->x.py=W p->y.py=W q->(pX p q=U↔x=y)) /\
 ∀x:List D,D.bT x=U->∀(y:List D)(p q:List lx),D.bT y=U->D.fY x=W p->D.fY y=W q->(tx p q=U↔x=y):=by
 show D.nJ ?_ ?_ ?_ ?_ ?_ ?_
 .intro y p q b c a
  rwa[<-L c]
  induction y using bJ<;>first|show ff b|(rwa[<-L a];first|show⟨λz=>rfl,λz=>rfl⟩|show oM rfl λe=>D.noConfusion e)|(show bR (wJ a) λz z f=>?_;clear a;obtain rfl:=f;show oM rfl λe=>D.noConfusion e)
 .intro i y p q b c a
  rwa[<-L c]
  induction y using bJ<;>first|show ff b|(rwa[<-L a];first|show oM rfl λe=>D.noConfusion e|show bX.trans ⟨aI _,D.int.inj⟩)|(show bR (wJ a) λz z f=>?_;clear a;obtain rfl:=f;show oM rfl λe=>D.noConfusion e)
 .intro i y p q b c a
  rwa[<-L c]
  induction y using bJ<;>first|show ff b|(rwa[<-L a];first|show oM rfl λe=>D.noConfusion e|show bX.trans ⟨aI _,D.str.inj⟩)|(show bR (wJ a) λz z f=>?_;clear a;obtain rfl:=f;show oM rfl λe=>D.noConfusion e)
 .intro l z k y p q b c a
  show z0 p (wJ c) λt g=>?_
  induction y using bJ<;>first|show ff b|(rwa[<-L a];show oM rfl λe=>D.noConfusion e)|(show z0 q (wJ a) λu h=>?_;show(k _ _ _ b g h).trans ⟨aI _,D.tup.inj⟩)
 .intro y p q b c a
  rwa[<-L c]
  induction y using bH with
  |nil=>rwa[<-L a];show⟨λz=>rfl,λz=>rfl⟩
  |cons=>show mx q (wI a) λz z z=>?_;show oM rfl λe=>aF e.symm (lC _ _)
 .intro d r z z i j y p q b c a
  show my p (wI c) λv w m n=>?_
  induction y using bH with
  |nil=>rwa[<-L a];show oM rfl λe=>aF e (lC _ _)
  |cons=>
   show my q (wI a) λz z o s=>?_
   show(_&&_)=U↔_
   rwa[eu,i _ _ _ (au b).1 m o,j _ _ _ (au b).2 n s,oE]
theorem D.Ld(x y:D)(p q:lx)(a:x.bF=U)(b:y.bF=U)(c:x.py=W p)(d:y.py=W q):pX p q=I (x=y):=Bool.eq_iff_iff.mpr ((D.Lc.1 x a y p q b c d).trans decide_eq_true_iff.symm)
theorem D.SD(x y:List D)(p q:List lx)(a:D.bT x=U)(b:D.bT y=U)(c:D.fY x=W p)(d:D.fY y=W q):tx p q=I (x=y):=Bool.eq_iff_iff.mpr ((D.Lc.2 x a y p q b c d).trans decide_eq_true_iff.symm)
theorem R.ED(k:∀b f n,h.get? b=W (cP f n)->c.get? b=W (cP f n)):(∀d:D,d.bF=U->∀v,R w g h v d->R w g c v d)/\∀d,D.bT d=U->∀v,RL w g h v d->RL w g c v d :=
 D.nJ (λz r=>r) (λz z r=>r) (λz z r=>r) (λz z i z r=>k4 r λa f n e l m o p=>x3 a f n ⟨e,k _ _ _ l,m,o,i _ p⟩) (λz r=>r) λz z z z i j z r=>eX r λv r e a b=>x2 v r ⟨e,i _ a,j _ b⟩
theorem R.Le(k:∀b c n,h.get? b=W (cP c n)->a.get? b=W (cP c n))(r:R w g h v d)(q:d.bF=U):R w g a v d:=(R.ED k).1 d q v r
section
variable{prog:ki}{w:aU}{g:G}{A:bK}{E:az->aA->Prop}
theorem R.Ae(k:R w g s.heap a x)(l:R w d s.heap b y)(e:x.bF=U)(f:y.bF=U)(m:A.units+x.kd<cv)(h:c (I (x=y)) s):
 V (ar prog w) A (eqBool a b) c E s:=by
 show aV (D.tT x e) λp i z=>?_
 show aV (D.tT y f) λq j Z=>?_
 obtain⟨⟨n,o⟩,r⟩:=k.reads i
 obtain⟨⟨t,u⟩,v⟩:=l.reads j
 show DZ prog w A E s a b p q n t c o u r v (la m (P (sY ..) (bC (by assumption)))) ?_
 rwa[D.Ld x y p q e f i j];assumption
theorem R.SE:(∀d:D,d.bF=U->∀{n:Nat}{v:K}{s:H}{Q:Bool->H->Prop},R w g s.heap v d->d.kd<=n->Q U s->V (Z prog w) A (yo n v) Q E s) /\
 (∀c:List D,D.bT c=U->∀{n:Nat} {e:List K} {s:H} {Q:(Option Bool×PUnit)->H->Prop},RL w g s.heap e c->D.du c<=n->Q (N,()) s ->
 V (Z prog w) A (lJ e (N,iS) λy z=>do
  if !(<-yo n y)then bx (tA (W Y,iS))else bx (iR (N,iS))) Q E s):=by
 show D.nJ ?_ ?_ ?_ ?_ ?_ ?_
 .rintro n z s Q rfl z h;rwa[Cq n rfl];show aD h
 .rintro i n z s Q ⟨t,rfl⟩ z h;rwa[Cq n rfl];show aD h
 .rintro i n z s Q ⟨t,rfl,z⟩ z h;rwa[Cq n rfl];show aD h
 .rintro l z k n z s Q ⟨a,e,m,rfl,f,z,z,o⟩ b h
  have b:D.du l+1<=n:=b
  induction n using dS with
  |zero=>show aF b (lA _)
  |succ n=>
   unfold yo
   show J (pF (⟨_,f,rfl⟩:s.TypeIs (M a) "tuple") F.slot_tuple_eq.lookup ?_)
   show J (qQ (⟨_,f,rfl⟩:s.TypeIs (M a) "tuple") Iy ?_)
   show J (Cr f rfl (J ?_))
   rwa[qP,<-zF]
   show k o (lB b) (aD h)
 .rintro n z s Q rfl z h;rwa[td];show aD h
 .rintro d l z z i j n z s Q ⟨v,r,rfl,p,q⟩ b h
  rwa[ny]
  show J (J (i p (P (nr _ _) b) ?_))
  show aD (j q (P (nt _ _) b) h)
theorem R.quiet(r:R w g s.heap v d)(k:d.bF=U):d.kd<=n->a U s->V (Z prog w) A (yo n v) a E s:=R.SE.1 d k r
end
noncomputable def D.kk:D->Nat
 |.int _=>0
 |.str _=>1
 |.tup _=>2
 |_=>3
noncomputable def keyOk(a:List (D×D))(k:D):Bool:=k.bF&&I (k.kd<=7/\k.kk<3)&&a.all λp=>p.1.bF&&I (p.1.kd<=7)&&p.1.kk==k.kk
noncomputable def cW(a:List (D×D))(k:D):Option Nat:=a.findIdx? λp=>I (p.1=k)
section
variable{w:aU}{g:G}{h:b0}
theorem RL.length(r:RL w g h vs ds):vs.length=ds.length:=by
 induction ds generalizing vs with
 |nil=>rwa[show vs=[]from r];rfl
 |cons d ds i=>obtain⟨v,a,rfl,z,r⟩:=r;show aI (· +1) (i r)
theorem RE.length(r:RE w g h b a):b.length=a.length:=by
 induction a generalizing b with
 |nil=>rwa[show b=[]from r];rfl
 |cons d c i=>obtain⟨k,v,e,rfl,z,z,r⟩:=r;show aI (· +1) (i r)
theorem RL.get{i:Nat}(r:RL w g h c b)(e:b[i]?=W d):∃v,c[i]?=W v/\R w g h v d:=by
 induction b generalizing c i with
 |nil=>show nn e
 |cons x b f=>
  obtain⟨v,j,rfl,a,r⟩:=r
  induction i using dS with
  |zero=>cases e;show⟨v,rfl,a⟩
  |succ i=>show f (i:=i) r e
theorem RL.append(r:RL w g h b ds)(y:RL w g h c e):RL w g h (b++c) (ds++e):=by
 induction ds generalizing b with
 |nil=>rwa[show b=[]from r];show y
 |cons d ds i=>obtain⟨v,f,rfl,a,r⟩:=r;show x2 v _ ⟨rfl,a,i r⟩
theorem RL.take(n:Nat)(r:RL w g h vs ds):RL w g h (vs.take n) (ds.take n):=by
 induction ds generalizing vs n with
 |nil=>rwa[show vs=[]from r,IW,IW];rfl
 |cons d ds i=>
  obtain⟨v,b,rfl,a,r⟩:=r
  induction n using dS with
  |zero=>rfl
  |succ n=>show x2 v _ ⟨rfl,a,i n r⟩
theorem RL.drop(n:Nat)(r:RL w g h b c):RL w g h (b.drop n) (c.drop n):=by
 induction c generalizing b n with
 |nil=>rwa[show b=[]from r,y6,y6];rfl
 |cons d c i=>
  obtain⟨v,e,rfl,a,r⟩:=r
  induction n using dS with
  |zero=>show x2 v _ ⟨rfl,a,r⟩
  |succ n=>show i n r
theorem RL.reverse(r:RL w g h b ds):RL w g h b.reverse ds.reverse:=by
 induction ds generalizing b with
 |nil=>rwa[show b=[]from r];rfl
 |cons d ds i=>obtain⟨v,c,rfl,a,r⟩:=r;rwa[q6,q6];show(i r).append (x2 v _ ⟨rfl,a,rfl⟩)
theorem RL.set(i:Nat)(r:RL w g h vs ds)(x:R w g h v d):RL w g h (vs.set i v) (ds.set i d):=by
 induction ds generalizing vs i with
 |nil=>rwa[show vs=[]from r];rfl
 |cons d ds b=>
  obtain⟨u,c,rfl,a,r⟩:=r
  induction i using dS with
  |zero=>show x2 v _ ⟨rfl,x,r⟩
  |succ i=>show x2 u _ ⟨rfl,a,b i r⟩
theorem RE.get{i:Nat}(r:RE w g h d c)(e:c[i]?=W p):∃k v,d[i]?=W ⟨cj w p.1,k,v⟩/\R w g h k p.1/\R w g h v p.2:=by
 induction c generalizing d i with
 |nil=>show nn e
 |cons x j f=>
  obtain⟨k,v,l,rfl,a,b,r⟩:=r
  induction i using dS with
  |zero=>cases e;show x2 k v ⟨rfl,a,b⟩
  |succ i=>show f (i:=i) r e
theorem RE.append(r:RE w g h e c)(y:RE w g h j f):RE w g h (e++j) (c++f):=by
 induction c generalizing e with
 |nil=>rwa[show e=[]from r];show y
 |cons d l i=>obtain⟨k,v,m,rfl,a,b,r⟩:=r;show x3 k v _ ⟨rfl,a,b,i r⟩
theorem RE.modify(i:Nat)(r:RE w g h f c)(x:R w g h v d):RE w g h (f.modify i λe=>{e with val:=v}) (c.modify i λp=>(p.1,d)):=by
 induction c generalizing f i with
 |nil=>rwa[show f=[]from r,IX,IX];rfl
 |cons y l j=>
  obtain⟨k,u,m,rfl,a,b,r⟩:=r
  induction i using dS with
  |zero=>show x3 k v _ ⟨rfl,a,x,r⟩
  |succ i=>show x3 k u _ ⟨rfl,a,b,j i r⟩
theorem RE.erase(i:Nat)(r:RE w g h d c):RE w g h (d.eraseIdx i) (c.eraseIdx i):=by
 induction c generalizing d i with
 |nil=>rwa[show d=[]from r];rfl
 |cons y f e=>
  obtain⟨k,u,j,rfl,a,b,r⟩:=r
  induction i using dS with
  |zero=>show r
  |succ i=>show x3 k u _ ⟨rfl,a,b,e i r⟩
theorem RE.keys{e:List fg}(r:RE w g h e c):RL w g h (e.map (·.key)) (c.map (·.1)):=by
 induction c generalizing e with
 |nil=>rwa[show e=[]from r];rfl
 |cons d f i=>obtain⟨k,v,j,rfl,a,b,r⟩:=r;show x2 k _ ⟨rfl,a,i r⟩
theorem RE.mem(r:RE w g h f c)(m:e∈f):∃p∈c,e.hash=cj w p.1/\R w g h e.key p.1:=by
 induction c generalizing f with
 |nil=>rw[show f=[]from r]at m;show aF m bc
 |cons d j i=>
  obtain⟨k,v,l,rfl,a,b,r⟩:=r
  rcases bB.mp m with rfl|m
  .show ⟨d,a7,rfl,a⟩
  .show bR (i r m) λp q t=>?_;show⟨p,bq _ q,t⟩
theorem RE.findIdx(q:fg->Bool)(p:D×D->Bool)(r:RE w g h e c)(H:∀k v x,x∈c->R w g h k x.1->q ⟨cj w x.1,k,v⟩=p x):e.findIdx? q=c.findIdx? p:=by
 induction c generalizing e with
 |nil=>rwa[show e=[]from r];rfl
 |cons d f i=>
  obtain⟨k,v,j,rfl,a,b,r⟩:=r
  rwa[rg,rg,H k v d a7 a,i r λk v x m=>H k v x (bq _ m)]
end
theorem tU{a:List (D×D)}{k:D}(h:cW a k=N):k∉a.map (·.1):=by
 unfold cW at h
 rw[IY]at h
 intro b
 revert h;show ct k (b3.mp b) λp c h=>?_
 simpa using h p c
theorem kF(h:cW a k=W i):∃v,a[i]?=W (k,v):=by
 unfold cW at h
 rw[De]at h
 show aV (h) λc b z=>?_
 show⟨a[i].2,?_⟩
 rwa[dn c]
 simp only[decide_eq_true_eq]at b
 rwa[<-b]
section
variable{prog:ki}{w:aU}
def EE(prog:ki)(w:aU):HeapKind prog w D where
 is h k a:=k.bF=U/\k.kd<=7/\∃g,R w g h (M a) k
 hash k:=cj w k
 draws k:=k.draws
 room A:=A.units+100<cv
 inj:=λ⟨c,_,_,m⟩ ⟨d,_,_,o⟩=>R.inj m o c d
 keeps:=λ⟨c,d,g,r⟩ j p l=>⟨c,d,g,R.Le (λb s n e=>(l.2 b (by
  clear l;rintro rfl
  rw[j]at e;clear j;cases e;cases p)).trans e) r c⟩
 pyHash:=λf ⟨c,d,g,r⟩ h=>R.hash r c (u8 f d) h
 eqBool:=λf ⟨c,d,g,r⟩ ⟨i,_,t,q⟩ h=>R.Ae r q c i (u1 f d) h
 quiet:=λ⟨c,d,g,r⟩ h=>R.quiet r c (gV ‹_›) h
theorem Lg{d:D}(h:d.kk=2):∃l,d= aw l:=by
 induction d using bJ<;>first|show⟨_,rfl⟩|show aF h (vC rfl)
theorem RE.entries{g:G}{h:b0}{f:List fg}{c:List (D×D)}(r:RE w g h f c)(j:∀p∈c,p.1.bF=U/\p.1.kd<=7/\p.1.kk=2):
 ∃xs:List (D×aR×K),f=xs.map (entryOfKey (EE prog w))/\xs.map (·.1)=c.map (·.1)/\∀x∈xs,(EE prog w).is h x.1 x.2.1:=by
 induction c generalizing f with
 |nil=>show⟨[],r,rfl,λZ h=>aF h bc⟩
 |cons d B i=>
  obtain⟨k,v,xs,rfl,o,b,r⟩:=r
  show eA (i r λp m=>j p (bq _ m)) λxs s t u=>?_
  show a3 (j d a7) λy z q=>?_
  obtain⟨l,e⟩:=Lg q
  obtain⟨Q,H⟩:=d
  clear j q b;subst e
  show wz o λa Z Z n Z=>?_;obtain rfl:=n
  show⟨(aw l,a,v)::xs,aI (_:: ·) s,aI (_:: ·) t,λx A=>(bB.mp A).elim (λe=>e▸⟨y,z,g,o⟩) (u x)⟩
variable{g g':G}{A:bK}{E:az->aA->Prop}{s:aA}
theorem Lh{K:Type}[DecidableEq K](knd:KeyKind prog w K)(f:K->D)(I:∀a b,f a=f b->a=b)(o:∀k v g h,R w g h v (f k)->knd.is k v=U){k:K} 
(u:∀k,cj w (f k)=knd.hash k)(J:s.heap.get? d=aa (eb l n))(y:RE w g s.heap l i)(L:R w g' s.heap j (f k))(z:∀p∈i,∃k,p.1=f k)(h:c (cW i (f k)) s):aj (ar prog w) A (dictFind d j (cj w (f k))) c E s:=by
 rwa[u]
 show wpAny_dictFind_of (knd:=knd) (o _ _ _ _ L) J rfl (λe M=>?_) ?_
 .show eA (y.mem (DO.mpr M)) λp m B H=>?_
  obtain⟨t,e⟩:=z p m
  rw[e]at B H
  show⟨t,o _ _ _ _ H,B.trans (u t)⟩
 .rwa [List.findIdx?_toArray];rewrite [y.findIdx _ (λp=>aK (p.1=f k)) λj v x m r=>?_]
  .show h
  .obtain ⟨t,e⟩:=z x m
   rw[e]at r |-
   show Bool.eq_iff_iff.mpr ⟨λq=>dA (aI f (knd.inj _ _ _ (o _ _ _ _ r) q)),λq=>I _ _ (bS q)▸o _ _ _ _ r⟩
theorem wK(c:keyOk b k=U):k.bF=U/\k.kd<=7/\k.kk<3/\∀p∈b,p.1.bF=U/\p.1.kd<=7/\p.1.kk=k.kk :=
 have a:=au c
 ⟨(au a.1).1,(bS (au a.1).2).1,(bS (au a.1).2).2,λp m=>have d:=au (bQ.mp a.2 p m);have e:=au d.1;⟨e.1,bS e.2,bX.mp d.2⟩⟩
theorem Af{d:aR}{L:List fg}{n:Nat}{b:List (D×D)}{f:K}{k:D}{Q:Option Nat->H->Prop}(P:A.units+100<cv)(y:s.heap.get? d=W (eb L n))(z:RE w g s.heap L b)
(M:(b.map (·.1)).Nodup)(u:R w g' s.heap f k)(U:keyOk b k=af)(h:Q (cW b k) s):aj (ar prog w) A (dictFind d f (cj w k)) Q E s:=by
 show a4 (wK U) λN V W B=>?_
 induction k using bJ with
 |int i=>
  show Lh (Cs prog w) aq (λX X=>D.int.inj) (λk v g h ⟨t,e⟩=>by rwa[e];show beq_self_eq_true k) (λX=>rfl) y z u (λp m=>by
   have:=(B p m).2.2
   revert this;cases p.1<;>first|showλX=>⟨_,rfl⟩|showλh=>aF h (aQ rfl)) h
 |str x=>
  show Lh (Ct prog w) bl (λX X=>D.str.inj) (λk v g h ⟨t,e,_⟩=>by rwa[e];show beq_self_eq_true k) (λX=>rfl) y z u (λp m=>by
   have:=(B p m).2.2
   revert this;cases p.1<;>first|showλX=>⟨_,rfl⟩|showλh=>aF h (aQ rfl)) h
 |tup l=>
  show wz u λa X X H X=>?_;obtain rfl:=H
  show eA (RE.entries (prog:=prog) z B) λxs Y I Z=>?_
  show wpAny_dictFind_heap (knd:=EE prog w) (k:= aw l) (xs:=xs) P ⟨N,V,g',u⟩ y rfl Y Z (I▸M) (λJ=>?_) λj p hj=>?_
  .have:cW b (aw l)=ae:=by
    generalize q:cW b (aw l)=c;induction c with
    |none=>rfl
    |some j=>
     obtain⟨v,K⟩:=kF q
     have:(xs.map (·.1))[j]?=aa (aw l):=![I,dy,K]
     rw[dy]at this
     obtain⟨⟨x1,x2⟩,hx,rfl⟩:=ej.mp this
     show aF hx (J j x2)
   rw[this]at h;show h
  .have:cW b (aw l)=aa j:=by
    have o:(b.map (·.1))[j]?=aa (aw l):=![<-I,dy,hj]
    generalize q:cW b (aw l)=c;induction c with
    |none=>show aF (cN o) (tU q)
    |some i=>
     obtain⟨v,K⟩:=kF q
     have r:(b.map (·.1))[i]?=aa (aw l):=![dy,K]
     rwa[(Df (cD.mp r).1 M).mp (r.trans o.symm)]
   rw[this]at h;show h
 |none=>show aF W (cq 3)
 |bool|lst|ji|ins|obj|val=>show ff N
end
def cw(a:List (D×D))(k:D):Option D:=(cW a k).bind λi=>(a[i]?).map (·.2)
def cp(a:List (D×D))(k v:D):List (D×D):=match cW a k with
 |some i=>a.modify i λp=>(p.1,v)
 |none=>a++[(k,v)]
def hG(a:List (D×D))(k:D):List (D×D):=match cW a k with
 |some i=>a.eraseIdx i
 |none=>a
structure DictAt (w:aU) (g:G) (h:b0) (d:aR) (es:List fg) (n:Nat) (b4:List (D×D)):Prop where
 at_:h.get? d=aa (eb es n)
 sz:es.length<=2^20
 nd:(b4.map (·.1)).Nodup
 re:RE w g h es b4
theorem DictAt.typeIs{s:H}{b n a}(x:DictAt w g s.heap d b n a):s.TypeIs (M d) "dict" :=⟨_,x.at_,rfl⟩
section
variable{prog:ki}{w:aU}{g g':G}{A:bK}{E:az->aA->Prop}{s:aA}{d:aR}{es:List fg}{n:Nat}{b4:List (D×D)}{key:az}{k:D}
theorem EF(p:A.units+100<cv)(m:DictAt w g s.heap d es n b4)(r:R w g' s.heap key k)(t:keyOk b4 k=U)
(f:cW b4 k=ae->c ae {s with toks:=s.toks+k.draws})
(h:∀v j,cw b4 k=aa j->R w g s.heap v j->c (aa v) {s with toks:=s.toks+k.draws}):aj (ar prog w) A (vk d key) c E s:=by
 show a3 (wK t) λx l Z=>?_
 unfold vk
 try with_reducible show cU ?_
 show ai (R.hash r x (u8 p l) (ai (Af (s:={s with toks:=s.toks+k.draws}) p m.at_ m.re m.nd r t ?_)))
 generalize q:cW b4 k=o;induction o with
 |none=>show aD (f q)
 |some i=>
  show dM (kF q) λj u=>?_
  show eX (RE.get m.re u) λa b e B y=>?_
  show ai (qR (s:={s with toks:=s.toks+k.draws}) m.at_ rfl ?_)
  have z:es.toArray[i]?=aa ⟨cj w k,a,b⟩:=by simpa using e
  rwa[z]
  show aD (h b j (by simp[cw,q,u]) y)
theorem Li(j:A.units+101<cv)(c:(d==jw)=Y)(m:DictAt w g s.heap d es n b4)(e:R w g' s.heap key k)(f:keyOk b4 k=U)
(h:a (cW b4 k).isSome {s with toks:=s.toks+k.draws}):aj (ar prog w) A (contains (ao d) key) a E s:=by
 have b:A.in1.units+100<cv:=by show A.units+1+100<cv;assumption
 unfold contains
 try with_reducible show cU ?_
 show ai (pF m.typeIs Cu.lookup ?_)
 show aj _ _ (if(aa (bM "dict.__contains__")==aa aN)=af then _ else _) _ E s
 rwa[aL (by rwa[Cm];show fe)]
 show ai (wpAny_callSpecialUnlessNone?_slot (name:=a0 "__contains__") m.typeIs Cu
  (gE Cu m.typeIs entry_dict_contains ?_ (args_dict_contains _ _)))
 show aj _ _ (vk d key>>=_) _ _ s
 show ai (EF b m e f (λq=>?_) λv l q y=>?_)
 .rw [q]at h
  show aj _ _ (Builtin.Dict.pendingKey? d key>>=_) _ _ _
  show ai (wpAny_pendingKey_other c (aD ⟨_,rfl,l9 h⟩))
 .show bU (q) λi z y=>?_
  rw[z]at h
  show aj _ _ (ret (eh af)) _ _ _
  show aD ⟨_,rfl,l9 h⟩
theorem SF(b:A.units+101<cv)(c:(d==jw)=Y)(m:DictAt w g s.heap d es n b4)(e:R w g' s.heap key k)(f:keyOk b4 k=U)
(h:a (eh (cW b4 k).isSome) {s with toks:=s.toks+k.draws}):aj (ar prog w) A (ly .In key (ao d)) a E s:=ai (Li b c m e f (aD h))
theorem SG(b:A.units+101<cv)(c:(d==jw)=Y)(m:DictAt w g s.heap d es n b4)(e:R w g' s.heap key k)(f:keyOk b4 k=U)
(h:a (eh (!(cW b4 k).isSome)) {s with toks:=s.toks+k.draws}):aj (ar prog w) A (ly gY key (ao d)) a E s:=ai (Li b c m e f (aD h))
theorem SH(l:A.units+101<cv)(m:DictAt w g s.heap d es n b4)(f:R w g' s.heap key k)(i:keyOk b4 k=U)(c:cw b4 k=W b)
(h:∀v,R w g s.heap v b->a v {s with toks:=s.toks+k.draws}):aj (ar prog w) A (jx (ao d) key) a E s:=by
 have e:A.in1.units+100<cv:=by show A.units+1+100<cv;assumption
 unfold jx
 try with_reducible show cU ?_
 show ai (yp m.typeIs (by rfl) ?_)
 show ai (ma (name:=a0 "__getitem__") m.typeIs Cv
  (gE Cv m.typeIs entry_dict_getitem ?_ (args_dict_getitem _ _)))
 show aj _ _ (vk d key>>=_) _ _ s
 show ai (EF e m f i (λq=>?_) λv j q r=>?_)
 .rw [cw,q]at c;cases c
 .rw [c]at q;cases q
  show aD ⟨v,rfl,aD (h v r)⟩
theorem RE.cp(b:RE w g s.heap es b4)(f:R w g s.heap key k)(c:R w g s.heap v a):
 (∀i,cW b4 k=W i->RE w g s.heap (es.modify i λe=>{e with val:=v}) (cp b4 k a))/\(cW b4 k=N->RE w g s.heap (es++[⟨cj w k,key,v⟩]) (cp b4 k a)):=by
 show⟨λi q=>?_,λq=>?_⟩
 .simp only [Pq.cp,q];show RE.modify i b c
 .simp only [Pq.cp,q];show RE.append b (.cons f c .nil)
theorem EG{b4:List (D×D)}{k v:D}(f:(b4.map (·.1)).Nodup):((cp b4 k v).map (·.1)).Nodup:=by
 unfold cp
 generalize q:cW b4 k=c;induction c with
 |some i=>
  have:(b4.modify i λp=>(p.1,v)).map (·.1)=b4.map (·.1):=by
   apply y7
   intro j
   simp only[dy,IZ]
   by_cases e:i=j
   .subst e;simp only[if_true,Option.map_map];cases b4[i]? <;>rfl
   .simp [e]
  simpa[this]using f
 |none=>
  simp only[gH,ea,Dg]
  rwa[oq]
  show⟨f,by simp,λa l b h e=>?_⟩
  rw[bI]at h
  subst h;subst e
  show tU q l
theorem EH{v:K}{c:D}{Q:Unit->H->Prop}(t:A.units+100<cv)(m:DictAt w g s.heap d es n b4)(f:R w g s.heap key k)(o:R w g s.heap v c)(u:keyOk b4 k=U)(p:b4.length<2^20)
(h:∀j b x,gp d s.heap j->j.get? d=aa (eb b x)->b.length<=2^20->((cp b4 k c).map (·.1)).Nodup->RE w g s.heap b (cp b4 k c)->Q () {s with heap:=j}):
 aj (ar prog w) A (dictSetHashed d key (cj w k) v) Q E s:=by
 have r:=m.re.length
 have y:fL=2^24:=rfl
 unfold dictSetHashed
 try with_reducible show cU ?_
 show ai (Af t m.at_ m.re m.nd f u ?_)
 generalize q:cW b4 k=l;induction l with
 |none=>
  show ai (iJ (Cw (hz:=by simp only[ot];lia) (hf:=bC (wg ..)) m.at_ rfl (h _ (es++[⟨cj w k,key,v⟩]) (n+1) (iu ..) ?_ ?_ (EG m.nd) ((RE.cp m.re f o).2 q))))
  .rwa [oz _ m.at_ rfl];show aI (λa=>aa {eb es n with data:= mu a (n+1)}) (I6 ..)
  .show aC (bC (cF.trans (aI (· +1) r))) p
 |some i=>
  show ai (iJ (ai (wpAny_updateDict m.at_ rfl (wpAny_point (h _ (es.modify i λe=>{e with val:=v}) n (iu ..) ?_ ?_ (EG m.nd) ((RE.cp m.re f o).1 i q))))))
  .rwa [oz _ m.at_ rfl];show aI (λa=>aa {eb es n with data:= mu a n}) (List.modify_toArray ..)
  .rwa [I7,r];show eL p
theorem SI{v:K}{l:D}{Q:Unit->H->Prop}(z:A.units+101<cv)(m:DictAt w g s.heap d es n b4)(q:R w g s.heap key k)(t:R w g s.heap v l)(r:keyOk b4 k=U)(u:b4.length<2^20)
(h:∀j i o,gp d s.heap j->j.get? d=aa (eb i o)->i.length<=2^20->((cp b4 k l).map (·.1)).Nodup->RE w g s.heap i (cp b4 k l)->Q () {s with heap:=j,toks:=s.toks+k.draws}):
 aj (ar prog w) A (setItem (ao d) key v) Q E s:=by
 have p:A.in1.units+100<cv:=by show A.units+1+100<cv;assumption
 show a3 (wK r) λx y Z=>?_
 unfold setItem
 try with_reducible show cU ?_
 show ai (yp m.typeIs (by rfl) ?_)
 show ai (ma (name:=a0 "__setitem__") m.typeIs slot_dict_setitem
  (gE slot_dict_setitem m.typeIs entry_dict_setitem ?_ (args_dict_setitem _ _ _)))
 show aj _ _ (Builtin.Dict.notOrdered "__setitem__" ⟨[ao d,key,v],[]⟩>>=_) _ _ s
 show ai (sO m.typeIs ?_)
 show aj _ _ (dictSet d key v>>=_) _ _ s
 unfold dictSet
 show ai ?_
 try with_reducible show cU ?_
 show ai (R.hash q x (show A.units+1+8*k.kd<cv from zV (by assumption) (by assumption)) ?_)
 show EH (s:={s with toks:=s.toks+k.draws}) p m q t r u λj i o a b c e f=>aD ⟨aN,rfl,aD (h j i o a b c e f)⟩
end
noncomputable def cG(x y:D):Option Bool:=match x.py,y.py with
 |some p,W q=>if p.depth<=60/\q.depth<=60 then W (pX p q)else N
 |_,_=>N
section
variable{prog:ki}{w:aU}{g g':G}{A:bK}{E:az->aA->Prop}{s:aA}
theorem tV(e:cG x y=W b):∃p q,x.py=W p/\y.py=W q/\p.depth<=60/\q.depth<=60/\b=pX p q:=by
 unfold cG at e
 generalize d:x.py=a;induction a with
 |none=>rw[d]at e;cases e
 |some p=>
  generalize f:y.py=a;induction a with
  |none=>rw[d,f]at e;cases e
  |some q=>
   rw[d,f]at e
   dsimp only at e
   split at e
   .rename_i c;cases e;show x2 p q ⟨rfl,rfl,c.1,c.2,rfl⟩
   .contradiction
theorem SJ(d:R w g s.heap a x)(f:R w g' s.heap b y)(i:A.units+64<cv)(e:cG x y=W r):D2 A s a b r:=by
 show nI (tV e) λp q j k l B c=>?_;clear e;obtain rfl:=c
 obtain⟨⟨m,n⟩,o⟩:=d.reads j
 obtain⟨⟨t,u⟩,v⟩:=f.reads k
 showλprog z E Q h=>DZ prog z A E s a b p q m t Q n u o v (la i (P (sY ..) (P l (aQ rfl)))) h
noncomputable def qc:List D->D->Option Nat
 |[],_=>N
 |y::r,x=>match cG y x with
  |some U=>W 0
  |some Y=>(qc r x).map (· +1)
  |none=>N
theorem Lj{y x:D}{r:List D}:qc (y::r) x=yl (motive:=λz=>Option Nat) (cG y x) N λb=>Bool.casesOn (motive:=λz=>Option Nat) b ((qc r x).map (· +1)) (W 0):=![]
theorem SK :∀{j:Nat},qc l x=W j->∃p:j<l.length,cG l[j] x=W U/\∀m (a:m<l.length),m<j->cG l[m] x=W Y:=by
 induction l with
 |nil=>showλh=>nn h
 |cons y r f=>
  intro j h
  have h:=Lj.symm.trans h
  generalize q:cG y x=o at h
  induction o with
  |none=>show nn h
  |some b=>
   induction b with
   |true=>rwa[<-L h];show⟨dm _,q,λm z a=>aF a (i7 _)⟩
   |false=>
    show eG h λk i e=>?_
    rwa[<-e]
    show(f i).elim λn d=>⟨CW n 1,d.1,λm a c=>?_⟩
    induction m using dS with
    |zero=>show q
    |succ m=>show d.2 m (sZ a) (sZ c)
theorem SM(hu:A.units+65<cv)(J:s.heap.get? l=W (bO c n))(B:RL w g s.heap c.toList f)(L:R w g' s.heap x k)
(o:f.all (λd=>(cG d k).isSome)=af)(hz:c.size<=2^20)(M:qc f k=aa j)(h:a (bL j s.toks) {s with toks:=s.toks+1}):aj (ar prog w) A (b9 (bM "list.index") [ao l,x]) a E s:=by
 classical
 show aV (SK M) λh1 N h3=>?_
 have t:c.size=f.length:=by simpa using B.length
 let e:az->Bool:=λy=>if q:∃d∈f,R w g s.heap y d then(cG q.choose k).getD ah else ah
 have K:∀d∈f,d.py.isSome=af:=λd P=>by
  have:=bQ.mp o d P
  obtain⟨b,z⟩:=fF.mp this
  show jW (tV z) λp q U X=>?_
  simp[U]
 have H:∀(i:Nat)(u:i<c.size),e c[i]=(cG (f[i]'(ey u t)) k).getD ah:=λi u=>by
  have V:=ey u t
  show aV (B.get (dn (ey u t:i<f.length))) λv I r=>?_
  have ev:c[i]=v:=by
   have:c.toList[i]?=aa c[i]:=getElem?_pos ..
   rw[I]at this;show(aH this).symm
  have q:∃d∈f,R w g s.heap c[i] d:=⟨f[i],te _,ev▸r⟩
  show(if q:∃d∈f,R w g s.heap c[i] d then(cG q.choose k).getD ah else ah)=_
  rwa[dif_pos q,(R.EC q.choose_spec.2 (ev▸r) (K _ q.choose_spec.1) (K _ (te _)):q.choose=f[i])]
 show sP JW ⟨_,J,rfl⟩ PySem.F.entry_list_index (PySem.F.args_list_index_2 _ _) (SeqAt.list_indexAt l c n ae #[] x e j (ey ‹_› (gq ‹_›)) (by lia) ?_ ?_) ⟨J,λy W=>?_,h⟩
 .rwa [H j (by lia)];simp[N]
 .intro m Y Z;rwa[H m Y];simp_all
 .obtain ⟨i,u,rfl⟩:=JP W
  show aV (B.get (dn (ey ‹_› ‹_›:i<f.length))) λv I r=>?_
  have ev:c[i]=v:=by
   have:c.toList[i]?=aa c[i]:=getElem?_pos ..
   rw[I]at this;show(aH this).symm
  rwa[H i u]
  obtain⟨b,z⟩:=fF.mp (bQ.mp o f[i] (te _))
  rwa[z]
  show SJ (A:=A.in1) (ev▸r) L (by show A.units+1+64<cv;assumption) z
theorem Lk(e:s.heap.get? l=W (bO b n))(f:b.size<2^20)
(h:∀c d,gp l s.heap c->c.get? l=aa (bO (b.push x) d)->a aN {s with heap:=c}):aj (ar prog w) A (b9 (bM "list.append") [ao l,x]) a E s :=
 wpAny_list_append_plain ⟨n,e⟩ (λc ⟨d,i⟩ j=>h c d j i) (aC (eL f) (aQ rfl:2^20<=fL))
theorem qd{h:b0}(f:Array K->Array K)(b:h.get? l=W (bO a n)):∃c,(h.update l (jF f)).get? l=W (bO (f a) c):=by
 show⟨_,oz _ b rfl⟩
theorem SN(l:List a)(x:a):((l++[x]).toArray).eraseIdxIfInBounds ((l++[x]).toArray.size-1)=l.toArray:=by
 have b:l.length<(l++[x]).toArray.size:=by simp
 have e:(l++[x]).toArray.size-1=l.length:=by simp
 rwa[e]
 unfold DP
 rwa[dif_pos b]
 apply p5.mp
 rwa[DQ]
 simp[List.eraseIdx_append_of_length_le]
theorem SO(c:s.heap.get? l=W (bO (b++[y]).toArray n))(j:b.length<2^20)
(h:∀d e,gp l s.heap d->d.get? l=aa (bO b.toArray e)->a y {s with heap:=d}):aj (ar prog w) A (b9 (bM "list.pop") [ao l]) a E s:=by
 obtain⟨e,f⟩:=qd (λi=>i.eraseIdxIfInBounds ((b++[y]).toArray.size-1)) c
 show sP zK ⟨_,c,rfl⟩ JX (PySem.F.args_list_pop_1 _) (MeetsSeq.list_pop_last l _ n y (by simp) (by simp;show bg ‹_› (by show br ..))) ⟨c,h _ e (iu ..) ?_⟩
 rwa[f,SN]
theorem SP(c:s.heap.get? l=W (bO (y::b).toArray n))(j:b.length<2^20)
(h:∀d e,gp l s.heap d->d.get? l=aa (bO b.toArray e)->a y {s with heap:=d}):aj (ar prog w) A (b9 (bM "list.pop") [ao l,bL 0 u]) a E s:=by
 obtain⟨e,f⟩:=qd (λi=>i.eraseIdxIfInBounds 0) c
 show sP zK ⟨_,c,rfl⟩ JX (PySem.F.args_list_pop_2 _ _) (MeetsSeq.list_pop_at l _ n 0 u 0 y (by rfl) ?_ (y8) (by simp;show bg ‹_› (aQ rfl))) ⟨c,h _ e (iu ..) ?_⟩
 .simp [seqIndex?]
 .rwa [f]
  have:((y::b).toArray).eraseIdxIfInBounds 0=b.toArray:=by
   unfold DP
   rwa[dif_pos (dm _)]
   apply p5.mp
   rwa[DQ];show kz _
  rwa[this]
theorem SQ(e:s.heap.get? l=W (bO d n))(j:s.heap.get? b=W (bO c m))(o:d.size+c.size<=2^20)
(h:∀f i,gp l s.heap f->f.get? l=aa (bO (d++c) i)->a aN {s with heap:=f}):aj (ar prog w) A (b9 (bM "list.extend") [ao l,ao b]) a E s:=by
 have p:fL=2^24:=rfl
 obtain⟨i,k⟩:=qd (λx=>x++c) e
 show sP JY ⟨_,e,rfl⟩ PySem.F.entry_list_extend (PySem.F.args_list_extend_2 _ _) (AutoSeq1.list_extend_list_list_0 l d n b c m ?_ (by lia) (by show aC ‹_› (by show br ..))) ⟨e,j,h _ i (iu ..) k⟩
 rwa[eu,not_and,Bool.not_eq_true]
 intro z
 unfold Builtin.List.listTooLong
 simp
 show aC ‹_› (by show br ..)
end
section
variable{prog:ki}{w:aU}{g g':G}{A:bK}{E:az->aA->Prop}{s:aA}{d:aR}{es:List fg}{n:Nat}{b4:List (D×D)}{key:az}{k:D}
theorem Ag(a:keyOk b4 k=U):k.bF=U/\k.kd<=7:=by
 unfold keyOk at a
 rw[eu,eu]at a
 show⟨a.1.1,(bS a.1.2).1⟩
theorem in1_units(A:bK):A.in1.units=A.units+1:=rfl
theorem SR(f:A.units+101<cv)(b:(d==jw)=Y)(m:DictAt w g s.heap d es n b4)(c:R w g' s.heap key k)(e:keyOk b4 k=U)
(h:∀v,R w g s.heap v ((cw b4 k).getD cg)->a v {s with toks:=s.toks+k.draws}):aj (ar prog w) A (b9 (bM "dict.get") [ao d,key]) a E s:=by
 show gE JZ m.typeIs PySem.F.entry_dict_get ?_ (PySem.F.args_dict_get_2 _ _)
 show aj _ _ (vk d key>>=_) _ _ s
 show ai (EF (![in1_units]) m c e (λq=>?_) λv i q r=>?_)
 .show aj _ _ (Builtin.Dict.missed d key>>=_) _ _ _
  show ai (wpAny_missed_other b (aD ⟨aN,rfl,h aN (by simp[cw,q];show .none)⟩))
 .show aD ⟨v,rfl,h v (by rwa[q];show r)⟩
theorem SS{v:K}{f:D}{Q:K->aA->Prop}(V:A.units+101<cv)(H:(d==jw)=Y)(m:DictAt w g s.heap d es n b4)(o:R w g s.heap key k)(I:R w g s.heap v f)(x:keyOk b4 k=U)(J:b4.length<2^20)
(h:∀u l,cw b4 k=aa l->R w g s.heap u l->Q u {s with toks:=s.toks+k.draws})
(j:cw b4 k=ae->∀p c K,gp d s.heap p->p.get? d=aa (eb c K)->c.length<=2^20->((b4++[(k,f)]).map (·.1)).Nodup->RE w g s.heap c (b4++[(k,f)])->Q v {s with heap:=p,toks:=s.toks+k.draws}):
 aj (ar prog w) A (b9 (bM "dict.setdefault") [ao d,key,v]) Q E s:=by
 show cR (Ag x) λL W=>?_
 have M:=m.re.length
 have Y:fL=2^24:=rfl
 show gE J0 m.typeIs PySem.F.entry_dict_setdefault ?_ (PySem.F.args_dict_setdefault_3 _ _ _)
 show ai ?_
 unfold Builtin.Dict.keyAndDefault
 show ai (sO m.typeIs ?_)
 show aj _ _ (bx (d,key,aa v)) _ _ s
 show aD ?_
 show aj _ _ (if(d==jw)=af then _ else(dictSetDefault d key v>>=_)) _ _ s
 rwa[aL (by rwa[H];show fe)]
 show ai ?_
 unfold dictSetDefault
 try with_reducible show cU ?_
 show ai (R.hash o L (by rwa[in1_units];show zV (by assumption) (by assumption)) (ai (Af (s:={s with toks:=s.toks+k.draws}) (![in1_units]) m.at_ m.re m.nd o x ?_)))
 generalize q:cW b4 k=r;induction r with
 |none=>
  have N:cw b4 k=ae:=by simp[cw,q]
  have t:cp b4 k f=b4++[(k,f)]:=by simp[cp,q]
  have y:=EG (k:=k) (v:=f) m.nd
  have z:=(RE.cp m.re o I).2 q
  rw[t]at y z
  show ai (iJ (ai (Cw (s:={s with toks:=s.toks+k.draws}) (hz:=by simp only[ot];lia) (hf:=bC (wg ..)) m.at_ rfl (aD (aD ⟨v,rfl,?_⟩)))))
  show j N _ (es++[⟨cj w k,key,v⟩]) (n+1) (iu ..) ?_ ?_ y z
  .show Heap.get? (s.heap.update _ _) d=_
   rwa[oz _ m.at_ rfl];show aI (λa=>aa {eb es n with data:= mu a (n+1)}) (I6 ..)
  .show aC (bC (cF.trans (aI (· +1) M))) J
 |some i=>
  obtain⟨l,B⟩:=kF q
  show eX (RE.get m.re B) λa b e Z P=>?_
  show ai (qR (s:={s with toks:=s.toks+k.draws}) m.at_ rfl ?_)
  have U:es.toArray[i]?=aa ⟨cj w k,a,b⟩:=by simpa using e
  rwa[U]
  show ai (iJ (aD (aD ⟨b,rfl,h b l (by simp[cw,q,B]) P⟩)))
theorem SU{j:D}{Q:K->H->Prop}(L:A.units+101<cv)(m:DictAt w g s.heap d es n b4)(t:R w g s.heap key k)(l:(keyPart key).isSome=U)(u:keyOk b4 k=U)(o:cw b4 k=W j)
(h:∀v p c B,R w g s.heap v j->gp d s.heap p->p.get? d=aa (eb c B)->c.length<=2^20->((hG b4 k).map (·.1)).Nodup->RE w g s.heap c (hG b4 k)->Q v {s with heap:=p,toks:=s.toks+k.draws}):
 aj (ar prog w) A (b9 (bM "dict.pop") [ao d,key]) Q E s:=by
 show cR (Ag u) λH M=>?_
 have N:=m.re.length
 have P:fL=2^24:=rfl
 have I:=m.sz
 show gE J1 m.typeIs PySem.F.entry_dict_pop ?_ (PySem.F.args_dict_pop_2 _ _)
 show ai ?_
 show ai (sO m.typeIs ?_)
 show aj _ _ (bx (d,key,ae)) _ _ s
 show aD ?_
 dsimp only
 rwa[aJ l]
 show ai (aD ?_)
 show ai ?_
 unfold Builtin.Dict.takeOut
 try with_reducible show cU ?_
 show ai (R.hash t H (by rwa[in1_units];show zV (by assumption) (by assumption)) (ai (Af (s:={s with toks:=s.toks+k.draws}) (![in1_units]) m.at_ m.re m.nd t u ?_)))
 generalize q:cW b4 k=r;induction r with
 |none=>simp[cw,q]at o
 |some i=>
  obtain⟨J,y⟩:=kF q
  have:J=j:=by simpa[cw,q,y]using o
  clear o;subst this
  show eX (RE.get m.re y) λa b e U rb=>?_
  have V:i<es.length:=(cD.mp e).1
  show ai (qR (s:={s with toks:=s.toks+k.draws}) m.at_ rfl ?_)
  have K:es.toArray[i]?=aa ⟨cj w k,a,b⟩:=by simpa using e
  rwa[K]
  have z:es.toArray.eraseIdxIfInBounds i=(es.eraseIdx i).toArray:=by
   unfold DP
   rwa[dif_pos (by assumption)]
   apply p5.mp
   rwa[DQ]
  show ai (Cw (s:={s with toks:=s.toks+k.draws}) (hz:=by simp only[ot];show aC ‹_› (by show br ..)) (hf:=by rwa[z];simp[I8];split<;>(first|contradiction|show aC (oj ..) (gW _)|lia)) m.at_ rfl (aD ?_))
  dsimp only[Option.isNone_some]
  show ai (yq (aD ⟨b,rfl,?_⟩))
  have f:hG b4 k=b4.eraseIdx i:=by simp[hG,q]
  show h b _ (es.eraseIdx i) (n+1) rb (iu ..) ?_ ?_ ?_ ?_
  .show Heap.get? (s.heap.update _ _) d=_
   rwa[oz _ m.at_ rfl];show aI (λx=>aa ({eb [] (n+1)with data:= mu x (n+1)}:cC)) z
  .rwa [I8];split<;>(first|show aC (oj ..) ‹_›|lia)
  .rwa [f]
   have:(b4.eraseIdx i).map (·.1)=(b4.map (·.1)).eraseIdx i:=by
    rwa[I9,I9];simp[pN,vI]
   rwa[this]
   show List.Nodup.sublist (List.eraseIdx_sublist ..) m.nd
  .rwa [f];show RE.erase i m.re
end
noncomputable def qe(l:List (Nat×D))(k:Nat)(d:D):List (Nat×D):=match l with
 |[]=>[(k,d)]
 |p::r=>if p.1=k then(k,d)::r else p::qe r k d
theorem EI(b:i<20)(a:j<20)(t:Tok):(fU (attr i) t).isStr (attr j)=I (i=j):=by
 show(attr i==attr j)=_
 by_cases e:i=j
 .clear a;subst e;simp
 .have:attr i≠attr j:=λq=>e (Sz b a q)
  simp[e,this]
section
variable{w:aU}{g:G}{h:b0}
theorem RA.noRef{es:List fg}(r:RA w g h es l):es.any (·.refKey)=Y:=by
 induction l generalizing es with
 |nil=>rwa[show es=[]from r];rfl
 |cons p l i=>obtain⟨t,v,a,rfl,z,z,r⟩:=r;show i (es:=a) r
theorem RA.find{k:Nat}(c:k<20){b:List fg}{l:List (Nat×D)}(r:RA w g h b l):
 match l.lookup k with|some d=>∃e,b.find? (·.key.isStr (attr k))=W e/\R w g h e.val d|none=>b.find? (·.key.isStr (attr k))=N:=by
 induction l generalizing b with
 |nil=>rwa[show b=[]from r];rfl
 |cons p l i=>
  obtain⟨t,v,j,rfl,f,a,r⟩:=r
  rwa[Ja,pM,(EI f c t)]
  by_cases e:p.1=k
  .rwa [e,beq_self_eq_true,dA rfl]
   show⟨_,rfl,a⟩
  .rwa [show(k==p.1)=Y from beq_eq_false_iff_ne.mpr λz=>e z.symm,ef e]
   show i r
theorem RA.get(b:k<20)(c:RA w g h a l)(f:l.lookup k=W d):∃v,getL (attr k) a=W (W v)/\R w g h v d:=by
 have:=RA.find b c
 rw[f]at this
 show aV (this) λe i r=>?_
 show⟨e.val,by unfold getL;rwa[i],r⟩
theorem RA.SV{b:bu}(d:(bE 20).all (λk=>I (attr k≠b))=U){c:List fg}{l:List (Nat×D)}(r:RA w g h c l):c.find? (·.key.isStr b)=N:=by
 induction l generalizing c with
 |nil=>rwa[show c=[]from r];rfl
 |cons p l i=>
  obtain⟨t,v,f,rfl,e,a,r⟩:=r
  rwa[Ja,show(fU (attr p.1) t).isStr b=Y from beq_eq_false_iff_ne.mpr (bS (bQ.mp d p.1 (fM.mpr e)))]
  show i r
theorem RA.SW(d:(bE 20).all (λk=>I (attr k≠a))=U)(c:RA w g h b l):getL a b=W N:=by
 unfold getL
 rwa[c.SV d,c.noRef];rfl
theorem RA.put(c:k<20)(m:R w g h v d)(r:RA w g h b l):RA w g h (putL (attr k) (pV w.params (attr k)) (fU (attr k) t) v b) (qe l k d):=by
 induction l generalizing b with
 |nil=>rwa[show b=[]from r];show x3 t v _ ⟨rfl,c,m,rfl⟩
 |cons p l i=>
  obtain⟨f,u,n,rfl,j,a,r⟩:=r
  show RA w g h (if Value.isStr _ (attr k)=U then _ else _) (if p.1=k then _ else _)
  by_cases e:p.1=k
  .clear i;subst e
   rwa[aJ rfl,aJ ((EI j c f).trans (dA rfl))]
   show x3 f v _ ⟨rfl,c,m,r⟩
  .rwa [aL e,aL (by rwa[(EI j c f),ef e];show fe)]
   show x3 f u _ ⟨rfl,j,a,i r⟩
theorem RA.length(r:RA w g h a l):a.length=l.length:=by
 induction l generalizing a with
 |nil=>rwa[show a=[]from r];rfl
 |cons p l i=>obtain⟨t,v,b,rfl,z,z,r⟩:=r;show aI (· +1) (i r)
theorem R.handed(r:R w g h v d)(a:∀v,d≠ .val v):handedIn v=U:=by
 clear a;induction d using bJ<;>first|(obtain⟨z,z,z,z,rfl,z⟩:=r;rfl)|(obtain⟨z,z,rfl,z⟩:=r;rfl)|(show ee v r λz z=>?_;rfl)|(obtain⟨z,rfl⟩:=r;rfl)|show r.elim|(rwa[show v=_ from r];rfl)|(show Ey v r λz z z z=>?_;rfl)
end
theorem Ll(a:bu)(b:Int)(c v:K):∀d:List fg,(putL a b c v d).length<=d.length+1
 |[]=>dm _
 |e::r=>by
  unfold putL
  split
  .show gW _
  .have:=Ll a b c v r;simp;assumption
section
variable{prog:ki}{w:aU}{g g':G}{A:bK}{E:az->aA->Prop}{s:aA}{K:Frag}{x dx C:aR}{es:List fg}{n:Nat}{l:List (Nat×D)}
structure Inst (w:aU) (g:G) (h:b0) (x dx C:aR) (es:List fg) (n:Nat) (l:List (Nat×D)):Prop where
 at_:h.get? x=aa (ik C dx)
 dict:h.get? dx=aa (eb es n)
 ra:RA w g h es l
theorem Inst.at'(I:Inst w g h x dx C es n l):InstAt h x (ik C dx) C (W (eb es n)):=⟨I.at_,rfl,rfl,I.dict⟩
theorem SX(X:K.In s.heap)(I:Inst w g s.heap x dx C es n l)(e:k<20)(f:plainGet K C (attr k)=U)(i:hasDictIn K C=U)
(j:nD K (ao C) (attr k)=aa b)(m:noGet K b=af)(o:l.lookup k=aa d)(p:∀v,d≠ .val v)(h:∀v,R w g s.heap v d->a v {s with toks:=s.toks+1}):
 aj (ar prog w) A (getAttr (ao x) (attr k) c) a E s:=by
 show aV (I.ra.get e o) λv q r=>?_
 show get_value X I.at' (DE f).1 (findObj_own i j m (by rwa[lookIn_dict];show q)) (r.handed p) (h v r)
theorem SY(X:K.In s.heap)(I:Inst w g s.heap x dx C es n l)(d:plainGet K C b=U)(e:nD K (M C) b=W (W (M f)))(i:isFn K (M f)=U)
(j:(bE 20).all (λk=>aK (attr k≠b))=af)(h:a (ao f,[ao x]) s):aj (ar prog w) A (sQ (ao x) b c) a E s :=
 method_fn X I.at' (DE d).1 (DE d).2 e (bX.mp i) (by show(lookIn b (eb es n)).map _=_;rwa[lookIn_dict,I.ra.SW j];rfl) h
theorem S0{k:Nat}{v:az}{d:D}{Q:Unit->aA->Prop}(X:K.In s.heap)(I:Inst w g s.heap x dx C es n l)(p:k<20)(q:nD K (ao C) "__setattr__" =W (W (bM "object.__setattr__"))) (r:plainOver K C=U)
 (t:takerIn K C (attr k)=W ae) (u:(clsIn K C).any (·.hasDict)=U) (y:R w g s.heap v d) (L:l.length<1000)
 (h:∀f e z,gp dx s.heap f->f.get? dx=W (eb e z)->RA w g s.heap e (qe l k d)->∀B,Q () {s with heap:=f,toks:=B}):V (Z prog w) A (setAttr (ao x) (attr k) v) Q E s:=by
 have H:=I.ra.length
 have M:fL=2^24:=rfl
 show set_plain X I.at' q (osa_open (s:={s with toks:=s.toks+1}) X I.at' r t λb=>?_)
 show aV (any_some u) λN J i=>?_
 show ai (aD (ai (ai (wpAny_loadPart (s:={s with toks:=s.toks+1}) I.at_ ?_))))
 dsimp only
 show ai (Looks.here (s:={s with toks:=s.toks+1}) (looks_clsIn X J) ?_)
 rwa[i]
 show aD (a:=W dx) (ai (aD (ai ?_)))
 unfold nsSet
 show ai (ai (sR (aD (ai (wpAny_mkText (ai (wpAny_loadPart (s:={s with toks:=s.toks+1+1}) I.dict ?_)))))))
 dsimp only
 have c:(!es.toArray.any (·.key.isStr (attr k))&&es.toArray.any (·.refKey))=Y:=by
  rwa[<-DR,<-DR,I.ra.noRef,Bool.and_false]
 rwa[aRefKeyMayBeTheName_at,c]
 show wpAny_updatePart (s:={s with toks:=s.toks+1+1}) I.dict ?_
 have j:=putName_dict (attr k) (pV w.params (attr k)) (fU (attr k) (s.toks+1)) v es n
 have m:(s.heap.update dx (Obj.putName (attr k) (pV w.params (attr k)) (fU (attr k) (s.toks+1)) v)).get? dx=W (eb (putL (attr k) (pV w.params (attr k)) (fU (attr k) (s.toks+1)) v es) (putN (attr k) es n)):=by
  rwa[oz _ I.dict ![j],j]
 show ai (wpAny_lookBehind (o:=eb (putL (attr k) (pV w.params (attr k)) (fU (attr k) (s.toks+1)) v es) (putN (attr k) es n)) m (pastItsLine_dict (by
  have:=Ll (attr k) (pV w.params (attr k)) (fU (attr k) (s.toks+1)) v es
  rwa[ot];lia)) ?_)
 show aD (h _ _ _ (iu ..) m (I.ra.put p y) _)
end
section
variable{prog:ki}{w:aU}{g g':G}{A:bK}{E:az->aA->Prop}{s:aA}
theorem Ext.push{fr:List aR}(o:cC):Ext fr g h g (h.push o) :=
 ⟨rfl,⟨[],by simp,λz h=>aF h bc⟩,λb a z z e=>dF _ e,by rwa[eP];show gW _⟩
noncomputable def G.iT(g:G)(h:b0):Prop:=∀a,g.Mt a->a<h.objs.size
theorem rL(c:g.iT h)(d:a.length<=2^20)(r:RL w g h a b):R w g (h.push (cP a.toArray 0)) (M h.objs.size) (aw b) :=
 .tup (dQ _ rfl) (λq=>cq _ (c _ q)) (by assumption) (by simpa using RL.ext (Ext.push (fr:=[]) _) (λz h=>aF h bc) r)
theorem tW(c:g.iT h)(d:a.length<=2^20)(r:RL w g h a b):R w g (h.push (bO a.toArray 0)) (M h.objs.size) (ay b) :=
 .lst (dQ _ rfl) (λq=>cq _ (c _ q)) (by assumption) (by simpa using RL.ext (Ext.push (fr:=[]) _) (λz h=>aF h bc) r)
theorem S2(d:s.heap.get? a=W (cP c n))(f:c.size<=2^20)(h:∀t e,b (bL c.size t) {s with toks:=e}):
 V (Z prog w) A (b9 (bM "len") [M a]) b E s:=PySem.P.len_tuple d (by lia) (h _ _)
theorem S3(d:s.heap.get? a=W (bO c n))(f:c.size<=2^20)(h:∀t e,b (bL c.size t) {s with toks:=e}):
 V (Z prog w) A (b9 (bM "len") [M a]) b E s:=call_len_list ⟨_,d,rfl,n,rfl⟩ (by lia) (h _ _)
theorem item_tup(j:s.heap.get? a=W (cP c n))(k:c.size<=2^20)(l:0<=i)(e:c[i.toNat]?=W v)(h:b v s):
 V (Z prog w) A (jx (M a) (bL i u)) b E s:=by
 have d:i.toNat<c.size:=(rH.mp e).1
 have f:i<(c.size:Int):=oC (we i) (jd.mpr d)
 have m:i<2^63:=zB f (oC (pY.mpr k) (by decide))
 show PySem.P.getItem_tuple j (by first|assumption|lia) (by first|assumption|lia) (seqIndex_of l f) e h
theorem S4(f:s.heap.get? a=W (bO c n))(j:c.size<=2^20)(k:0<=i)(e:c[i.toNat]?=W v)(h:b v s):
 V (Z prog w) A (jx (M a) (bL i u)) b E s:=by
 have d:i.toNat<c.size:=(rH.mp e).1
 show wpAny_getItem_list ⟨_,f,rfl,n,rfl⟩ k (oC (we i) (tB (jd.mpr (bg d j)) (by decide))) e h
theorem S5(f:s.heap.get? a=W (cP d n))(h:s.heap.get? b=W (cP e m))(p:d.size+e.size<=2^20)
(k:d.isEmpty=af->c (ao b) s)(l:e.isEmpty=af->c (ao a) s)(o:c (ao s.heap.objs.size) {s with heap:=s.heap.push (cP (d++e) 0)}):aj (ar prog w) A (binaryOp cV (ao a) (ao b)) c E s:=by
 by_cases i:d.isEmpty=af
 .show Iz ⟨_,f,rfl⟩ ⟨_,h,rfl⟩ IA IB J2 J3 (J4 _ _) (AutoSeq1.tuple___add___tuple_tuple_0 a d n b e m i) ⟨f,h,k i⟩
 .by_cases j:e.isEmpty=af
  .show Iz ⟨_,f,rfl⟩ ⟨_,h,rfl⟩ IA IB J2 J3 (J4 _ _) (AutoSeq1.tuple___add___tuple_tuple_1 a d n b e m i j) ⟨f,h,l j⟩
  .show PySem.P.add_tuple f h i j o (by have:fL=2^24:=rfl;show aC ‹_› (by show br ..))
theorem S6{n k:Nat}(e:s.heap.get? a=W (cP c n))(f:s.heap.IsSliceOf d (bL k u) aN aN)(i:1<=k)(j:k<=c.size)(l:c.size<=2^20)
(h:b (ao s.heap.objs.size) {s with heap:=s.heap.push (cP (c.toList.drop k).toArray 0)}):aj (ar prog w) A (jx (ao a) (ao d)) b E s :=
 getItem_tuple_from ⟨_,e,rfl,n,rfl⟩ f i j h (by have:fL=2^24:=rfl;show aC ‹_› (aQ rfl))
theorem Lm{lo j:Option Int}(k:s.heap.get? a=W (bO c n))(l:s.heap.IsSliceOf d f i aN)(m:sS f lo)(o:sS i j)(p:c.size<=2^20)
(h:b (ao s.heap.objs.size) {s with heap:=s.heap.push (bO (slicePick c lo j ae) 0)}):aj (ar prog w) A (jx (ao a) (ao d)) b E s :=
 wpAny_getItem_list_slice ⟨_,k,rfl,n,rfl⟩ l m o (st:=ae) rI (λe=>nn e) h (by have:fL=2^24:=rfl;lia)
end
section
inductive Tg where
 |var (i:Nat)
 |tup (l:List Nat)
inductive BF where
 |len|tuple|sum|max|list|dict|int|str|isTup|sorted|sset|Ah|listItems
inductive BM where
 |append|extend|pop|qf|oN|index|get|rM|isspace
set_option genCtorIdx false
mutual
inductive X where
 |none|bool (b:Bool)|int (i:Int)|str (s:String)
 |var (i:Nat)|glob (k:Nat)
 |attr (x:X) (k:Nat)
 |item (x i:X)
 |wL (x i:X)|lL (x i:X)|rN (x:X)
 |bin (op:Operator) (a b:X)
 |neg (a:X)|not (a:X)
 |cmp (op:m9) (a b:X)|wM (o1 o2:m9) (a b c:X)
 |and (a b:X)|or (a b:X)|ite (c a b:X)
 |tup (l:XS)|list (m:Bool) (l:XS)|dict (m:Bool) (l:XP)
 |tX (x:X) (s:String)
 |comp (m:Bool) (mp:List (Option Nat)) (tg:Tg) (it:It) (ifs:XS) (elt:X)
 |tY (mp:List (Option Nat)) (tg:Tg) (it:It) (tg2:Tg) (tZ:It) (elt:X)
 |call (f:Nat) (l:XS)|wN (name:String) (o:X) (l:XS)|new (C:Nat) (fz:Bool) (l:XS)
 |bf (f:BF) (x:X)|bm (f:BM) (o:X) (l:XS)
inductive XS where
 |nil|cons (x:X) (l:XS)
inductive XP where
 |nil|cons (k v:X) (l:XP)
inductive It where
 |val (x:X)|range (x:X)|enum (x:X)
end
inductive T where
 |var (i:Nat)
 |tup (l:List Nat)
 |attr (o:X) (k:Nat)
 |item (o i:X)
mutual
inductive C where
 |asg (t:T) (x:X)|ex (x:X)|ret (x:X)
 |ite (c:X) (a b:CS)|wO (c:X) (b:CS)|loop (tg:Tg) (it:It) (b:CS)
 |raise
inductive CS where
 |nil|cons (c:C) (l:CS)
end
set_option genCtorIdx true
noncomputable def look(σ:St):D->D
 |.obj n=>match σ[n]? with
  |some (aO l)=> ay l
  |some (a8 l)=> dG l
  |some (cz C l)=> bh C l
  |none=> ak n
 |d=>d
noncomputable def jX(l:List Nat):bu:=⟨l.toArray⟩
noncomputable def hH:Nat:=2^20
mutual
noncomputable def cy:D->D->Option Ordering
 |.int a,y=>match y with|.int b=>W (tH a b)|_=>N
 |.str a,y=>match y with|.str b=>W (if a=b then lF else if a.cps.toList<b.cps.toList then cY else .gt)|_=>N
 |.tup a,y=>match y with|.tup b=>fZ a b|_=>N
 |_,_=>N
termination_by structural x=>x
noncomputable def fZ:List D->List D->Option Ordering
 |[],y=>match y with|[]=>W lF|_::_=>W cY
 |a::x,y=>match y with|[]=>W .gt|b::y=>if a=b then fZ x y else cy a b
termination_by structural x=>x
end
noncomputable def jY(d:D):List D->List D
 |[]=>[d]
 |e::r=>if cy d e=W cY then d::e::r else e::jY d r
noncomputable def gK:List D->List D
 |[]=>[]
 |d::r=>jY d (gK r)
noncomputable def mE:D->D
 |.tup (x::_)=>x
 |_=> cg
def nK(l:List D):Bool:=(l.all λd=>I (d.kk=0))||(((l.all λd=>I (d.kk=1))||(l.all λd=>I ((mE d).kk=0))||(l.all λd=>I ((mE d).kk=1)))&&I l.Nodup&&l.all λx=>l.all λy=>(cy x y).isSome)
def gx(l:List D):Option (List D) :=
 if l.length<64/\D.bT l=U/\(l.all λd=>I (d.kd<=7))=U/\nK l=U then W (gK l)else N
noncomputable def dedup(l:List D):List D:=l.foldl (λa d=>if d∈a then a else a++[d]) []
def qg(l:List D):Option (List D) :=
 if(l.all λd=>I (d.kk=2))=U then if(dedup l).length<=4 then gx (dedup l)else N
 else if(l.all λd=>I (d.kk=0))=U\/(l.all λd=>I (d.kk=1))=U then gx (dedup l)else N
noncomputable def qh:List D->Option Int
 |[]=>W 0
 |.int i::r=>(qh r).map λj=>i+j
 |_=>N
noncomputable def maxD:List D->Option Int
 |[aq i]=>W i
 |.int i::r=>(maxD r).map λj=>if i<j then j else i
 |_=>N
noncomputable def S7(s:bu):Option Int :=
 if s.cps.size=1 then match s.cps.toList with
  |[c]=>if 48<=c/\c<=57 then W (c-48:Int)else N
  |_=>N
 else N
def Ln(i:Int):Option bu:=if 0<=i/\i<=9 then W (jX [(i+48).toNat])else N
noncomputable def mF:List D->Option (List (D×D))
 |[]=>W []
 |.tup [k,v]::r=>(mF r).map λl=>(k,v)::l
 |_=>N
def nL(l:List (D×D)):Option (List (D×D)) :=
 l.foldl (λb p=>b.bind λa=>if keyOk a p.1 then W (cp a p.1 p.2)else N) (W [])
noncomputable def EJ(s:bu):Option D:=match s.cps.toList with
 |[c]=>if 33<=c/\c<=126 then W (aM Y)else N
 |_=>N
noncomputable def nM:D->Option (List D)
 |.lst l=>W l
 |_=>N
noncomputable def qi:D->Option (List (D×D))
 |.ji l=>W l
 |_=>N
def mG(f:BF)(d:D):Option D :=
 match f with
 |.len=>match d with
  |.tup l=>W (aq l.length)
  |.lst l=>W (aq l.length)
  |.str s=>if s.cps.size<hH then W (aq s.cps.size)else N
  |_=>N
 |.tuple=>match d with
  |.tup l=>W (aw l)
  |.lst l=>W (aw l)
  |_=>N
 |.list=>match d with
  |.tup l=>W (ay l)
  |_=>N
 |.sum=>(nM d).bind λl=>(qh l).map aq
 |.max=>(nM d).bind λl=>(maxD l).map aq
 |.dict=>match d with
  |.lst l=>if l.length<=1000 then((mF l).bind nL).map dG else N
  |.tup l=>if l.length<=1000 then((mF l).bind nL).map dG else N
  |_=>N
 |.int=>match d with
  |.str s=>(S7 s).map aq
  |_=>N
 |.str=>match d with
  |.int i=>(Ln i).map bl
  |_=>N
 |.isTup=>match d with
  |.tup _=>W (aM U)
  |.int _=>W (aM Y)
  |.bool _=>W (aM Y)
  |.str _=>W (aM Y)
  |_=>N
 |.sorted=>match d with
  |.lst l=>(gx l).map ay
  |.ji l=>(gx (l.map (·.1))).map ay
  |_=>N
 |.sset=>(nM d).bind λl=>(qg l).map ay
 |.Ah=>(qi d).bind λl=>(gx (l.map λp=> aw [p.1,p.2])).map ay
 |.listItems=>(qi d).bind λl=>W (ay (l.map λp=> aw [p.1,p.2]))
def eY(f:BF)(a:St)(d:D):Option D:=mG f (look a d)
noncomputable def oO:D->Option Int
 |.int i=>W i
 |_=>N
noncomputable def Lp:D->Option (List D)
 |.tup l=>W l
 |_=>N
noncomputable def Lq:D->Option bu
 |.str l=>W l
 |_=>N
def ii(a b:D)(f:Int->Int->Option D):Option D:=(oO a).bind λi=>(oO b).bind (f i)
def lM(c:Operator)(a b:D):Option D:=match c with
 |.Add=>match a with
  |.int i=>(oO b).map λj=> aq (i+j)
  |.tup x=>(Lp b).bind λy=>if x.length+y.length<=hH then W (aw (x++y))else N
  |.lst x=>(nM b).bind λy=>if x.length+y.length<=hH then W (ay (x++y))else N
  |_=>N
 |.Sub=>ii a b λi j=>W (aq (i-j))
 |.Mult=>ii a b λi j=>if i.natAbs<2^30/\j.natAbs<2^30 then W (aq (i*j))else N
 |.Mod=>ii a b λi j=>if 0<j then W (aq (i%j))else N
 |.Pow=>ii a b λi j=>if i=2/\j=2 then W (aq 4)else N
 |.BitOr=>ii a b λi j=>W (aq (p6 i j))
 |.BitAnd=>ii a b λi j=>W (aq (mw i j))
 |_=>N
def memD(a:D)(l:List D):Option Bool:=if(l.all λd=>(cG d a).isSome)=U then W (l.any λd=>(cG d a).getD Y)else N
noncomputable def EK(a b:D):Option Bool:=match b with
 |.none=>match a with
  |.none=>W U
  |.tup _=>W Y
  |.int _=>W Y
  |_=>N
 |_=>N
def inD(a b:D):Option Bool:=match b with
 |.tup l=>memD a l
 |.lst l=>memD a l
 |.ji l=>if keyOk l a then W (cW l a).isSome else N
 |.str y=>(Lq a).map λx=> !(Builtin.Str.occurrences y x 0 y.length 1).isEmpty
 |_=>N
def hK(c:m9)(a b:D):Option D:=match c with
 |.Eq=>(cG a b).map aM
 |.NotEq=>(cG a b).map λr=> aM (!r)
 |.Lt=>ii a b λi j=>W (aM (I (i<j)))
 |.LtE=>ii a b λi j=>W (aM (I (i<=j)))
 |.Gt=>ii a b λi j=>W (aM (I (i>j)))
 |.GtE=>ii a b λi j=>W (aM (I (i>=j)))
 |.Is=>(EK a b).map aM
 |.IsNot=>(EK a b).map λr=> aM (!r)
 |.In=>(inD a b).map aM
 |.NotIn=>(inD a b).map λr=> aM (!r)
def hM(a b:D):Option D:=match a with
 |.tup l=>(oO b).bind λi=>if 0<=i then l[i.toNat]? else N
 |.lst l=>(oO b).bind λi=>if 0<=i then l[i.toNat]? else N
 |.str s=>(oO b).bind λi=>if 0<=i/\i.toNat<hH then(s.cps.toList[i.toNat]?).map λc=> bl (jX [c])else N
 |.ji l=>if keyOk l b then cw l b else N
 |_=>N
def rO(a b:D):Option D :=
 match a,b with
 |.tup l,aq i=>if 1<=i/\i.toNat<=l.length then W (aw (l.drop i.toNat))else N
 |.lst l,aq i=>if 1<=i then W (ay (l.drop i.toNat))else N
 |.str s,aq i=>if s.cps.size<hH then W (bl (tI s (W i) N))else N
 |_,_=>N
def rP(a b:D):Option D :=
 match a,b with
 |.tup l,aq i=>if 0<=i then W (aw (l.take i.toNat))else N
 |.lst l,aq i=>if 0<=i then W (ay (l.take i.toNat))else N
 |.str s,aq i=>if s.cps.size<hH then W (bl (tI s N (W i)))else N
 |_,_=>N
noncomputable def Ai:D->Option D
 |.tup l=>W (aw l.reverse)
 |_=>N
noncomputable def wQ(a:D)(k:Nat):Option D:=match a with
 |.ins _ l=>l.lookup k
 |_=>N
noncomputable def lN:List Nat:=[198,234,316,446,477,531,557,583,616]
def qj(a:St)(d:D):Bool:=match look a d with
 |.ins C _=>I (C∈lN)
 |_=>Y
noncomputable def EL:D->Option (List D)
 |.tup l=>W l
 |.lst l=>W l
 |.str s=>if s.cps.size<=hH then W (s.cps.toList.map λc=> bl (jX [c]))else N
 |_=>N
noncomputable def dY(tg:Tg)(d:D)(ρ:List (Option D)):Option (List (Option D)) :=
 match tg,d with
 |.var i,d=>W (ρ.set i (W d))
 |.tup l,aw a=>if l.length=a.length then W ((l.zip a).foldl (λr p=>r.set p.1 (W p.2)) ρ)else N
 |.tup l,ay a=>if l.length=a.length then W ((l.zip a).foldl (λr p=>r.set p.1 (W p.2)) ρ)else N
 |_,_=>N
def wR(f:BM)(d:D):Bool:=match f with
 |.append|.extend|.pop|.qf|.index=>(nM d).isSome
 |.oN|.get|.rM=>(qi d).isSome
 |.isspace=>match d with|.str _=>U|_=>Y
noncomputable def a1:List D->Option D
 |[x]=>W x
 |_=>N
noncomputable def a2:List D->Option (D×D)
 |[x,y]=>W (x,y)
 |_=>N
noncomputable def lO(a:St):D->Option (Nat×List D)
 |.obj n=>match a[n]? with
  |some (aO l)=>W (n,l)
  |_=>N
 |_=>N
noncomputable def oP(a:St):D->Option (Nat×List (D×D))
 |.obj n=>match a[n]? with
  |some (a8 l)=>W (n,l)
  |_=>N
 |_=>N
def f5(f:BM)(o:D)(a:List D)(b:St):Option (D×St) :=
 match f with
 |.append=>(a1 a).bind λx=>(lO b o).bind λq=>if q.2.length<hH then W (cg,b.set q.1 (aO (q.2++[x])))else N
 |.extend=>(a1 a).bind λx=>(lO b o).bind λq=>(nM (look b x)).bind λm=>if q.2.length+m.length<=hH/\x≠ ak q.1 then W (cg,b.set q.1 (aO (q.2++m)))else N
 |.pop=>if a=[]then(lO b o).bind λq=>q.2.getLast?.map λx=>(x,b.set q.1 (aO q.2.dropLast))else N
 |.qf=>if a=[aq 0]then(lO b o).bind λq=>q.2.head?.map λx=>(x,b.set q.1 (aO q.2.tail))else N
 |.oN=>(a1 a).bind λk=>(oP b o).bind λq=>if keyOk q.2 k/\k.kk=0 then(cw q.2 k).map λd=>(d,b.set q.1 (a8 (hG q.2 k)))else N
 |.index=>(a1 a).bind λx=>(nM o).bind λl=>if(l.all λd=>(cG d x).isSome)=U then(qc l x).map λ(j:Nat)=>(aq j,b)else N
 |.get=>(a1 a).bind λk=>(qi (look b o)).bind λl=>if keyOk l k then W ((cw l k).getD cg,b)else N
 |.rM=>(a2 a).bind λk=>(oP b o).bind λq=>if keyOk q.2 k.1/\q.2.length<hH then(match cw q.2 k.1 with
  |some d=>W (d,b)
  |none=>W (k.2,b.set q.1 (a8 (cp q.2 k.1 k.2))))else N
 |.isspace=>if a=[]then(match o with
  |.str s=>(EJ s).map λd=>(d,b)
  |_=>N)else N
noncomputable def agv:D->Option Bool
 |.bool b=>W b
 |_=>N
mutual
noncomputable def nN(f:Nat->Option D):D->Option D
 |.obj n=>f n
 |.tup l=>(kG f l).map aw
 |.lst l=>(kG f l).map ay
 |.ji l=>(qk f l).map dG
 |.ins C l=>(nO f l).map (bh C)
 |d=>W d
termination_by structural x=>x
noncomputable def kG(f:Nat->Option D):List D->Option (List D)
 |[]=>W []
 |d::r=>(nN f d).bind λx=>(kG f r).map λy=>x::y
termination_by structural x=>x
noncomputable def qk(f:Nat->Option D):List (D×D)->Option (List (D×D))
 |[]=>W []
 |(k,d)::r=>if k.bF=U then(nN f d).bind λx=>(qk f r).map λy=>(k,x)::y else N
termination_by structural x=>x
noncomputable def nO(f:Nat->Option D):List (Nat×D)->Option (List (Nat×D))
 |[]=>W []
 |(k,d)::r=>(nN f d).bind λx=>(nO f r).map λy=>(k,x)::y
termination_by structural x=>x
end
noncomputable def eZ(a:St)(k:Nat):Nat->Nat->Option D
 |0,n=>if n<k then W (ak n)else N
 |m+1,n=>if n<k then W (ak n)else match a[n]? with
  |some (aO l)=>(kG (eZ a k m) l).map ay
  |some (a8 l)=>(qk (eZ a k m) l).map dG
  |some (cz C l)=>(nO (eZ a k m) l).map (bh C)
  |none=>N
def iU(σ:St)(d:D)(σ':St):Option (D×St) :=
 if σ'.take σ.length=σ then(nN (eZ σ' σ.length 4) d).map λa=>(a,σ)else N
noncomputable def nP(f:D->St->Option (Option D×St)):List D->St->Option (List D×St)
 |[],c=>W ([],c)
 |d::r,c=>(f d c).bind λa=>(nP f r a.2).map λb=>(a.1.toList++b.1,b.2)
noncomputable def lP(f:D->St->Option (List D×St)):List D->St->Option (List D×St)
 |[],c=>W ([],c)
 |d::r,c=>(f d c).bind λa=>(lP f r a.2).map λb=>(a.1++b.1,b.2)
noncomputable def iy(o:Option (D×St))(a b:St->Option c):Option c:=o.bind λr=>match r.1 with
 |.bool U=>a r.2
 |.bool Y=>b r.2
 |_=>N
noncomputable def S8:D->Option D
 |.int i=>W (aq (-i))
 |_=>N
noncomputable def S9(s:String):D->Option D
 |.str t=>if t.cps.size<hH/\(a0 s).cps.size<hH then W (bl (t++a0 s))else N
 |_=>N
noncomputable def Aj:D->Option Nat
 |.ins C _=>W C
 |_=>N
noncomputable def EM:D->Option (List D)
 |.int i=>if 0<=i/\i<hH then W ((bE i.toNat).map λk=> aq (k:Nat))else N
 |_=>N
noncomputable def Ta:D->Option (List D)
 |.tup l=>W (l.mapIdx λi e=> aw [aq i,e])
 |_=>N
abbrev mH:=Nat->List D->St->Option (D×St)
structure Tab where
 gd:Nat->Option D
 me:Nat->String->Option Nat
 Tb:Nat->Option (Option Nat)
 pu:Nat->Bool
section
variable(tb:Tab)(cal:mH)
def newD(C:Nat)(b:Bool)(c:List D)(a:St):Option (D×St):=(tb.Tb C).bind λo=>match o with
 |some f=>(cal f (ak a.length::c) (a++[cz C []])).bind λq=>match q.1 with
  |.none=>if b then iU a (ak a.length) q.2 else W (ak a.length,q.2)
  |_=>N
 |none=>if c=[]then if b then W (bh C [],a)else W (ak a.length,a++[cz C []])else N
mutual
noncomputable def ev:X->List (Option D)->St->Option (D×St)
 |.none,_,g=>W (cg,g)
 |.bool b,_,g=>W (aM b,g)
 |.int i,_,g=>W (aq i,g)
 |.str s,_,g=>W (bl (a0 s),g)
 |.var i,h,g=>((h[i]?).bind id).map λd=>(d,g)
 |.glob k,_,g=>(tb.gd k).map λd=>(d,g)
 |.attr x k,h,g=>(ev x h g).bind λr=>(if qj r.2 r.1=U then wQ (look r.2 r.1) k else N).map λd=>(d,r.2)
 |.item x i,h,g=>(ev x h g).bind λr=>(ev i h r.2).bind λq=>(hM (look q.2 r.1) q.1).map λd=>(d,q.2)
 |.wL x i,h,g=>(ev x h g).bind λr=>(ev i h r.2).bind λq=>(rO r.1 q.1).map λd=>(d,q.2)
 |.lL x i,h,g=>(ev x h g).bind λr=>(ev i h r.2).bind λq=>(rP r.1 q.1).map λd=>(d,q.2)
 |.rN x,h,g=>(ev x h g).bind λr=>(Ai r.1).map λd=>(d,r.2)
 |.bin w a b,h,g=>(ev a h g).bind λr=>(ev b h r.2).bind λq=>(lM w (look q.2 r.1) (look q.2 q.1)).map λd=>(d,q.2)
 |.neg a,h,g=>(ev a h g).bind λr=>(S8 r.1).map λd=>(d,r.2)
 |.not a,h,g=>iy (ev a h g) (λg=>W (aM Y,g)) (λg=>W (aM U,g))
 |.cmp w a b,h,g=>(ev a h g).bind λr=>(ev b h r.2).bind λq=>(hK w (look q.2 r.1) (look q.2 q.1)).map λd=>(d,q.2)
 |.wM o1 o2 a b c,h,g=>(ev a h g).bind λr=>(ev b h r.2).bind λq=>iy ((hK o1 (look q.2 r.1) (look q.2 q.1)).map λd=>(d,q.2)) (λg=>(ev c h g).bind λu=>(hK o2 (look u.2 q.1) (look u.2 u.1)).map λd=>(d,u.2)) (λg=>W (aM Y,g))
 |.and a b,h,g=>iy (ev a h g) (λg=>ev b h g) (λg=>W (aM Y,g))
 |.or a b,h,g=>iy (ev a h g) (λg=>W (aM U,g)) (λg=>ev b h g)
 |.ite c a b,h,g=>iy (ev c h g) (λg=>ev a h g) (λg=>ev b h g)
 |.tup l,h,g=>(ec l h g).map λr=>(aw r.1,r.2)
 |.list m l,h,g=>(ec l h g).map λr=>if m then(ak r.2.length,r.2++[aO r.1])else(ay r.1,r.2)
 |.dict m l,h,g=>(mI l h g).bind λr=>(nL r.1).map λe=>if m then(ak r.2.length,r.2++[a8 e])else(dG e,r.2)
 |.tX x s,h,g=>(ev x h g).bind λr=>(S9 s r.1).map λd=>(d,r.2)
 |.comp m y z A B n,h,g=>(fJ A h g).bind λp=>(nP (λd g=>(dY z d (y.map λo=>o.bind λi=>(h[i]?).bind id)).bind λj=>(oQ B j g).bind λb=>if b.1 then(ev n j b.2).map λr=>(W r.1,r.2)else W (N,b.2)) p.1 p.2).map λr=>if m then(ak r.2.length,r.2++[aO r.1])else(ay r.1,r.2)
 |.tY y z A Q tZ n,h,g=>(fJ A h g).bind λp=>(lP (λd g=>(dY z d (y.map λo=>o.bind λi=>(h[i]?).bind id)).bind λj=>(fJ tZ j g).bind λq=>nP (λe g=>(dY Q e j).bind λt=>(ev n t g).map λr=>(W r.1,r.2)) q.1 q.2) p.1 p.2).bind λr=>if r.1.length<=hH then W (ay r.1,r.2)else N
 |.call f l,h,g=>(ec l h g).bind λr=>cal f r.1 r.2
 |.wN v o l,h,g=>(ev o h g).bind λr=>(Aj (look r.2 r.1)).bind λC=>(tb.me C v).bind λf=>(ec l h r.2).bind λq=>cal f (r.1::q.1) q.2
 |.new C fz l,h,g=>(ec l h g).bind λr=>newD tb cal C fz r.1 r.2
 |.bf f x,h,g=>(ev x h g).bind λr=>(eY f r.2 r.1).map λd=>(d,r.2)
 |.bm f o l,h,g=>(ev o h g).bind λr=>if wR f (look r.2 r.1)=U then(ec l h r.2).bind λq=>f5 f r.1 q.1 q.2 else N
noncomputable def ec:XS->List (Option D)->St->Option (List D×St)
 |.nil,_,a=>W ([],a)
 |.cons x l,b,a=>(ev x b a).bind λr=>(ec l b r.2).map λq=>(r.1::q.1,q.2)
noncomputable def mI:XP->List (Option D)->St->Option (List (D×D)×St)
 |.nil,_,d=>W ([],d)
 |.cons k v l,e,d=>(ev k e d).bind λa=>(ev v e a.2).bind λb=>(mI l e b.2).map λc=>((a.1,b.1)::c.1,c.2)
noncomputable def fJ:It->List (Option D)->St->Option (List D×St)
 |.val x,a,b=>(ev x a b).bind λr=>(EL r.1).map λl=>(l,r.2)
 |.range x,a,b=>(ev x a b).bind λr=>(EM r.1).map λl=>(l,r.2)
 |.enum x,a,b=>(ev x a b).bind λr=>(Ta r.1).map λl=>(l,r.2)
noncomputable def oQ:XS->List (Option D)->St->Option (Bool×St)
 |.nil,_,a=>W (U,a)
 |.cons x l,b,a=>iy (ev x b a) (λa=>oQ l b a) (λa=>W (Y,a))
end
noncomputable abbrev Fm:=List (Option D)
abbrev Out:=Option (Option D×Fm×St)
def EN(a:St)(o:D)(k:Nat)(d:D):Option St:=match o with
 |.obj n=>match a[n]? with
  |some (cz C l)=>if l.length<900/\C∈lN then W (a.set n (cz C (qe l k d)))else N
  |_=>N
 |_=>N
def t4(a:St)(o e d:D):Option St:=match o with
 |.obj n=>match a[n]? with
  |some (aO l)=>match e with
   |.int i=>if 0<=i/\i.toNat<l.length then W (a.set n (aO (l.set i.toNat d)))else N
   |_=>N
  |some (a8 l)=>if keyOk l e/\l.length<hH then W (a.set n (a8 (cp l e d)))else N
  |_=>N
 |_=>N
def kH(t:T)(d:D)(b:Fm)(a:St):Option (Fm×St) :=
 match t with
 |.var i=>W (b.set i (W d),a)
 |.tup l=>(dY (.tup l) d b).map λr=>(r,a)
 |.attr o k=>(ev tb cal o b a).bind λr=>(EN r.2 r.1 k d).map λa=>(b,a)
 |.item o i=>(ev tb cal o b a).bind λr=>(ev tb cal i b r.2).bind λq=>(t4 q.2 r.1 q.1 d).map λa=>(b,a)
noncomputable def rQ(q:Option D×Fm×St)(k:Fm->St->Out):Out:=match q.1 with
 |none=>k q.2.1 q.2.2
 |some d=>W (W d,q.2)
noncomputable def loopGo(f:D->Fm->St->Out):List D->Fm->St->Out
 |[],a,b=>W (N,a,b)
 |d::r,a,b=>(f d a b).bind λq=>rQ q λa b=>loopGo f r a b
noncomputable def jk(t:Fm->St->Option (D×St))(f:Fm->St->Out):Nat->Fm->St->Out
 |0,_,_=>N
 |n+1,b,a=>iy (t b a) (λa=>(f b a).bind λq=>rQ q λb a=>jk t f n b a) λa=>W (N,b,a)
noncomputable def LF:Nat:=65536
mutual
noncomputable def ex:C->Fm->St->Out
 |.asg t x,e,f=>(ev tb cal x e f).bind λr=>(kH tb cal t r.1 e r.2).map λq=>(N,q.1,q.2)
 |.ex x,e,f=>(ev tb cal x e f).map λr=>(N,e,r.2)
 |.ret x,e,f=>(ev tb cal x e f).map λr=>(W r.1,e,r.2)
 |.ite c a b,e,f=>iy (ev tb cal c e f) (λf=>ba a e f) λf=>ba b e f
 |.wO c b,e,f=>jk (ev tb cal c) (λe f=>ba b e f) LF e f
 |.loop g h b,e,f=>(fJ tb cal h e f).bind λp=>loopGo (λd e f=>(dY g d e).bind λe=>ba b e f) p.1 e p.2
 |.raise,_,_=>N
noncomputable def ba:CS->Fm->St->Out
 |.nil,a,b=>W (N,a,b)
 |.cons c l,a,b=>(ex c a b).bind λq=>rQ q λa b=>ba l a b
end
end
structure Fn where
 ps:List Nat
 ns:Nat
 sl:Bool
 bd:CS
def mJ(d:Tab)(a:mH)(e:Nat->Option Fn):mH:=λf b c=>(e f).bind λF=>if F.ps.length=b.length then(ba d a F.bd ((F.ps.zip b).foldl (λr p=>r.set p.1 (W p.2)) (vJ F.ns N)) c).bind λr=>if F.sl then iU c (r.1.getD cg) r.2.2 else W (r.1.getD cg,r.2.2)else N
mutual
noncomputable def D.lo(k:Nat):D->Bool
 |.obj n=>I (n<k)
 |.tup l=>D.nQ k l
 |.lst l=>D.nQ k l
 |.ji l=>D.Ak k l
 |.ins _ l=>D.Al k l
 |_=>U
termination_by structural x=>x
noncomputable def D.nQ(k:Nat):List D->Bool
 |[]=>U
 |d::r=>d.lo k&&D.nQ k r
termination_by structural x=>x
noncomputable def D.Ak(k:Nat):List (D×D)->Bool
 |[]=>U
 |(a,d)::r=>a.lo k&&(d.lo k&&D.Ak k r)
termination_by structural x=>x
noncomputable def D.Al(k:Nat):List (Nat×D)->Bool
 |[]=>U
 |(_,d)::r=>d.lo k&&D.Al k r
termination_by structural x=>x
end
def wU(c:List D->Option (D×St))(a:List D)(b:St):Option (D×St) :=
 if D.nQ 0 a=U then(c a).bind λq=>if q.1.lo 0=U then W (q.1,b)else N
 else(kG (eZ b 0 4) a).bind λd=>(c d).bind λq=>if q.1.bF=U then W (q.1,b)else N
noncomputable def EO(a:Tab)(b:Nat->Option Fn):Nat->mH
 |0,_,_,_=>N
 |n+1,f,c,d=>if a.pu f=U then wU (λe=>mJ a (EO a b n) b f e []) c d else mJ a (EO a b n) b f c d
theorem k5(u:cy a c=W cY):jY a (c::r)=a::c::r:=aJ u
theorem jZ(u:¬cy a c=W cY):jY a (c::r)=c::jY a r:=aL u
theorem Lr(d:D)(l:List D):(jY d l).Perm (d::l):=by
 induction l with
 |nil=>show oG _
 |cons e r a=>
  by_cases q:cy d e=W cY
  .rwa [k5 q]
  .rwa [jZ q];show(a.cons e).trans (wh ..)
theorem j0(l:List D):(gK l).Perm l:=by
 induction l with
 |nil=>show oG _
 |cons d r a=>show(Lr d _).trans (a.cons d)
end
end Pq
open Pq.X renaming var->ax,item->cK,wN->dB,int->dI,cmp->dR,attr->dZ,comp->eH,tup->e0,bf->fa,str->fP,call->f6,bm->gL,bin->iV,list->mK,wL->mL,and->nR,new->oR,bool->ql,casesOn->rR,wM->t5,dict->t6,tY->t7
open Pq.XS renaming cons->aS,nil->aT
open Pq.Tg renaming var->bt,tup->jI
open Pq.CS renaming cons->cZ,nil->c7
open Pq.T renaming var->dH,attr->f7,item->iz,tup->iA
open Pq.BF renaming len->dO,tuple->gM,sorted->mM,dict->oS,sset->qm,isTup->t8
open Pq.It renaming val->dW,range->nS,casesOn->Am
open Pq.XP renaming nil->iB,cons->jl
open Pq.BM renaming append->iC,index->lQ,extend->qn,rM->t9
open Pq.C renaming asg->jJ,ite->k7
namespace Pq
section
open Pq.X renaming and->wV,cmp->b5,var->ag,str->aG,comp->eB,or->ub,bm->e5,list->dJ,bf->cH,int->aP,lL->uc,item->bj,call->x_call,tup->aE,wL->j1,bin->cJ,dict->mN,attr->b7,wN->c4,not->rS,wM->Ls,bool->jm,ite->j2,none->ud,new->dC,tX->EP,glob->a6,neg->Tc,rN->Td,tY->Te
open Pq.C renaming ret->bV,asg->bP,loop->j3,ex->fq,ite->dv,raise->rT,wO->wW
open Pq.It renaming val->b6,enum->Tf,range->oT
open Lean in
local macro_rules
 |`([$xs,*])=>do return <-xs.getElems.foldrM (β:=Term) (λx r=>`(.cons $x $r)) (<- `(.nil))
noncomputable def Ti:CS:=[bV (wV (b5 gZ (ag 0) (aG "")) (b5 dh (eB Y [N,N] (bt 1) (b6 (ag 0)) [ub (e5 .isspace (ag 1) []) (b5 .In (ag 1) (aG "()[]{},:"))] (ag 1)) (dJ Y [])))]
def Tj:Fn:=⟨[0],1,Y,Ti⟩
noncomputable def Tn:CS:=[bV (wV (b5 dh (cH dO (ag 0)) (aP 1)) (b5 dh (uc (bj (ag 0) (aP 0)) (aP 1)) (aG "?")))]
def To:Fn:=⟨[0],2,Y,Tn⟩
noncomputable def Tq:CS:=[bV (cH qm (eB Y [N,N,N,N] (jI [1,2]) (b6 (x_call 96 [ag 0])) [x_call 86 [ag 2]] (bj (ag 2) (aP 0))))]
def Tr:Fn:=⟨[0],4,Y,Tq⟩
noncomputable def Ts:CS:=[bP (dH 1) (dJ U [aE [aE [],ag 0]]),j3 (jI [2,3]) (Tf (j1 (ag 0) (aP 1))) [fq (e5 qn (ag 1) [eB Y [N,N,N,W 2] (jI [1,2]) (b6 (x_call 96 [ag 3])) [] (aE [cJ cV (aE [ag 3]) (ag 1),ag 2])])],bV (ag 1)]
def Tt:Fn:=⟨[0],6,U,Ts⟩
noncomputable def Tu:CS:=[bP (f7 (ag 0) 0) (dJ U []),bP (f7 (ag 0) 1) (mN U iB),bP (f7 (ag 0) 2) (dJ U []),bP (f7 (ag 0) 3) (dJ U [])]
def Tv:Fn:=⟨[0],1,Y,Tu⟩
noncomputable def Tw:CS:=[bV (cH dO (b7 (ag 0) 0))]
def Tx:Fn:=⟨[0],2,Y,Tw⟩
noncomputable def wX:CS:=[bP (dH 3) (cJ cV (aE [ag 1]) (cH gM (ag 2))),dv (b5 .In (ag 3) (b7 (ag 0) 1)) [bV (bj (b7 (ag 0) 1) (ag 3))] [],fq (c4 "require" (ag 0) [ag 1]),j3 (bt 4) (b6 (j1 (ag 3) (aP 1))) [dv (rS (Ls .LtE iO (aP 0) (ag 4) (cH dO (b7 (ag 0) 0)))) [rT] []],bP (iz (b7 (ag 0) 1) (ag 3)) (cH dO (b7 (ag 0) 0)),fq (e5 iC (b7 (ag 0) 0) [ag 3]),fq (e5 iC (b7 (ag 0) 2) [cJ cV (aP 1) (cH .sum (eB Y [N,N,W 0] (bt 1) (b6 (j1 (ag 3) (aP 1))) [] (bj (b7 (ag 2) 2) (ag 1))))]),fq (e5 iC (b7 (ag 0) 3) [cJ cV (aP 1) (cH .max (cJ cV (eB Y [N,N,W 0] (bt 1) (b6 (j1 (ag 3) (aP 1))) [] (bj (b7 (ag 2) 3) (ag 1))) (dJ Y [aP 0])))]),bV (cJ ox (cH dO (b7 (ag 0) 0)) (aP 1))]
def Tz:Fn:=⟨[0,1,2],10,Y,wX⟩
noncomputable def TA:CS:=[dv (ub (rS (x_call 79 [ag 1])) (b5 dh (bj (ag 1) (aP 0)) (aG "?"))) [rT] []]
def TB:Fn:=⟨[0,1],4,Y,TA⟩
noncomputable def ER:CS:=[bV (bj (bj (b7 (ag 0) 0) (ag 1)) (aP 0))]
def TC:Fn:=⟨[0,1],2,Y,ER⟩
noncomputable def Lu:CS:=[bV (j1 (bj (b7 (ag 0) 0) (ag 1)) (aP 1))]
def TF:Fn:=⟨[0,1],2,Y,Lu⟩
noncomputable def An:CS:=[bP (iA [2,3]) (aE [mN U (jl (ag 1) (jm U) iB),dJ U [ag 1]]),wW (b5 .Gt (cH dO (ag 3)) (aP 0)) [j3 (bt 4) (b6 (c4 "kids" (ag 0) [e5 .pop (ag 3) []])) [dv (b5 gY (ag 4) (ag 2)) [bP (iz (ag 2) (ag 4)) (jm U),fq (e5 iC (ag 3) [ag 4])] []]],bP (dH 5) (mN U iB),j3 (bt 6) (b6 (cH mM (ag 2))) [bP (iz (ag 5) (ag 6)) (cJ cV (aE [c4 "op" (ag 0) [ag 6]]) (cH gM (eB Y [N,N,W 5] (bt 1) (b6 (c4 "kids" (ag 0) [ag 6])) [] (bj (ag 2) (ag 1)))))],bV (bj (ag 5) (ag 1))]
def TG:Fn:=⟨[0,1],10,U,An⟩
noncomputable def TH:CS:=[bP (iA [1,2,3,4]) (aE [dJ U [],mN U iB,dJ U [aE [aP 0,ag 0]],aP 1]),wW (b5 gZ (ag 3) (dJ Y [])) [bP (iA [5,6]) (e5 .qf (ag 3) [aP 0]),dv (rS (x_call 86 [ag 6])) [bP (dH 7) (cJ ox (cH dO (ag 6)) (aP 1)),fq (e5 iC (ag 1) [aE [aG "bind",ag 5,bj (ag 6) (aP 0),ag 7,ag 4]]),fq (e5 qn (ag 3) [eB Y [N,N,W 4,W 6] (bt 1) (oT (ag 7)) [] (aE [cJ cV (ag 2) (ag 1),bj (ag 3) (cJ cV (ag 1) (aP 1))])]),bP (dH 4) (cJ cV (ag 4) (ag 7))] [dv (b5 .In (bj (ag 6) (aP 0)) (ag 2)) [fq (e5 iC (ag 1) [aE [aG "same",ag 5,bj (ag 2) (bj (ag 6) (aP 0))]])] [bP (iz (ag 2) (bj (ag 6) (aP 0))) (ag 5)]]],bV (cJ cV (cH gM (ag 1)) (aE [aE [aG "yield",cH gM (cH .Ah (ag 2))]]))]
def TJ:Fn:=⟨[0],13,U,TH⟩
noncomputable def ES:CS:=[bP (f7 (ag 0) 4) (ag 1)]
def TK:Fn:=⟨[0,1],2,Y,ES⟩
noncomputable def TL:CS:=[dv (b5 dh (bj (ag 1) (aP 0)) (aG "same")) [bV (j2 (b5 dh (bj (ag 2) (bj (ag 1) (aP 1))) (bj (ag 2) (bj (ag 1) (aP 2)))) (dJ Y [ag 2]) (dJ Y []))] [],bP (iA [3,4,5,6,7]) (ag 1),bP (dH 8) (eB Y [N,N,N,W 6,W 5] (bt 1) (b6 (c4 "nodes_of" (b7 (ag 0) 4) [bj (ag 2) (ag 4)])) [wV (b5 dh (bj (ag 1) (aP 0)) (ag 4)) (b5 dh (cH dO (ag 1)) (cJ cV (ag 3) (aP 1)))] (ag 1)),bV (eB Y [N,N,W 7,W 2] (bt 1) (b6 (ag 8)) [] (cJ cV (uc (ag 3) (ag 2)) (j1 (ag 1) (aP 1))))]
def ET:Fn:=⟨[0,1,2],9,Y,TL⟩
noncomputable def TM:CS:=[bP (dH 2) (mN U iB),bP (dH 3) (eB U [N,N] (bt 1) (b6 (c4 "classes" (b7 (ag 0) 4) [])) [] (aE [aP 0,aE [ag 1]])),wW (b5 gZ (ag 3) (dJ Y [])) [bP (iA [4,5]) (e5 .pop (ag 3) []),dv (b5 dh (bj (bj (ag 1) (ag 4)) (aP 0)) (aG "yield")) [bP (iz (ag 2) (aE [bj (ag 5) (aP 0),cH gM (eB Y [N,N,N,W 5] (jI [1,2]) (b6 (bj (bj (ag 1) (ag 4)) (aP 1))) [] (aE [ag 1,bj (ag 3) (ag 2)]))])) (jm U)] [fq (e5 qn (ag 3) [eB Y [N,N,W 4] (bt 1) (b6 (c4 "steps" (ag 0) [bj (ag 1) (ag 4),ag 5])) [] (aE [cJ cV (ag 2) (aP 1),ag 1])])]],bV (cH mM (ag 2))]
def TN:Fn:=⟨[0,1],8,U,TM⟩
noncomputable def TO:CS:=[bP (f7 (ag 0) 5) (dJ U []),bP (f7 (ag 0) 6) (dJ U []),bP (f7 (ag 0) 7) (dJ U [])]
def TP:Fn:=⟨[0],1,Y,TO⟩
noncomputable def EU:CS:=[fq (e5 iC (b7 (ag 0) 5) [cH dO (b7 (ag 0) 5)]),fq (e5 iC (b7 (ag 0) 6) [dJ U [cH dO (b7 (ag 0) 6)]]),bV (cJ ox (cH dO (b7 (ag 0) 5)) (aP 1))]
def TQ:Fn:=⟨[0],2,Y,EU⟩
noncomputable def TR:CS:=[bV (cH dO (b7 (ag 0) 5))]
def TS:Fn:=⟨[0],2,Y,TR⟩
noncomputable def TU:CS:=[wW (b5 gZ (bj (b7 (ag 0) 5) (ag 1)) (ag 1)) [bP (dH 1) (bj (b7 (ag 0) 5) (ag 1))],bV (ag 1)]
def Lv:Fn:=⟨[0,1],2,Y,TU⟩
noncomputable def EV:CS:=[bP (iA [3,4]) (cH mM (dJ Y [c4 "find" (ag 0) [ag 1],c4 "find" (ag 0) [ag 2]])),dv (b5 dh (ag 3) (ag 4)) [bV ud] [],bP (iz (b7 (ag 0) 5) (ag 4)) (ag 3),fq (e5 qn (bj (b7 (ag 0) 6) (ag 3)) [bj (b7 (ag 0) 6) (ag 4)]),fq (e5 iC (b7 (ag 0) 7) [aE [ag 3,ag 4]]),bV (aE [ag 3,ag 4])]
def TV:Fn:=⟨[0,1,2],6,Y,EV⟩
noncomputable def TX:CS:=[bV (cH mM (bj (b7 (ag 0) 6) (c4 "find" (ag 0) [ag 1])))]
def TY:Fn:=⟨[0,1],3,Y,TX⟩
noncomputable def TZ:CS:=[bV (eB Y [N,N,W 0] (bt 1) (oT (cH dO (b7 (ag 0) 5))) [b5 dh (bj (b7 (ag 2) 5) (ag 1)) (ag 1)] (ag 1))]
def T1:Fn:=⟨[0],3,Y,TZ⟩
noncomputable def T2:CS:=[bP (f7 (ag 0) 8) (dC 198 Y []),bP (f7 (ag 0) 9) (dC 316 Y []),bP (f7 (ag 0) 10) (dJ U []),bP (f7 (ag 0) 11) (dJ U []),bP (f7 (ag 0) 12) (mN U iB),bP (f7 (ag 0) 5) (mN U iB),bP (f7 (ag 0) 13) (dJ U [])]
def T3:Fn:=⟨[0],3,Y,T2⟩
noncomputable def T4:CS:=[bV (c4 "size" (b7 (ag 0) 8) [])]
def T5:Fn:=⟨[0],1,Y,T4⟩
noncomputable def T6:CS:=[bV (cJ cV (aE [c4 "op" (b7 (ag 0) 8) [ag 1]]) (cH gM (eB Y [N,N,W 0] (bt 1) (b6 (c4 "kids" (b7 (ag 0) 8) [ag 1])) [] (c4 "find" (ag 2) [ag 1]))))]
def T7:Fn:=⟨[0,1],3,Y,T6⟩
noncomputable def wY:CS:=[bP (dH 3) (c4 "take" (b7 (ag 0) 8) [ag 1,ag 2]),dv (b5 iO (ag 3) (c4 "size" (b7 (ag 0) 9) [])) [bV (ag 3)] [],fq (c4 "make" (b7 (ag 0) 9) []),bP (iz (b7 (ag 0) 5) (ag 3)) (dJ U []),j3 (bt 4) (b6 (cH qm (eB Y [N,N,W 0] (bt 1) (b6 (ag 2)) [] (c4 "find" (ag 2) [ag 1])))) [fq (e5 iC (bj (b7 (ag 0) 5) (ag 4)) [ag 3])],fq (c4 "look_at" (ag 0) [ag 3]),bV (ag 3)]
def T8:Fn:=⟨[0,1,2],7,Y,wY⟩
noncomputable def EW:CS:=[bP (dH 2) (e5 t9 (b7 (ag 0) 12) [c4 "node" (ag 0) [ag 1],ag 1]),dv (b5 gZ (c4 "find" (ag 0) [ag 2]) (c4 "find" (ag 0) [ag 1])) [fq (c4 "join" (ag 0) [ag 2,ag 1,aE [aG "like"]])] []]
def T9:Fn:=⟨[0,1],3,Y,EW⟩
noncomputable def Ua:CS:=[bV (c4 "find" (b7 (ag 0) 9) [ag 1])]
def Ub:Fn:=⟨[0,1],2,Y,Ua⟩
noncomputable def EX:CS:=[bV (c4 "join" (ag 0) [ag 1,ag 2,ag 3])]
def Uc:Fn:=⟨[0,1,2,3],4,Y,EX⟩
noncomputable def EY:CS:=[fq (e5 iC (b7 (ag 0) 10) [aE [ag 1,ag 2,ag 3]]),bP (dH 4) (c4 "merge" (b7 (ag 0) 9) [ag 1,ag 2]),dv (b5 .Is (ag 4) ud) [bV (jm Y)] [],bP (iA [5,6]) (ag 4),fq (e5 iC (b7 (ag 0) 11) [cJ ox (cH dO (b7 (ag 0) 10)) (aP 1)]),fq (e5 qn (b7 (ag 0) 13) [bj (b7 (ag 0) 5) (ag 6)]),bP (iz (b7 (ag 0) 5) (ag 5)) (cJ cV (bj (b7 (ag 0) 5) (ag 5)) (e5 .oN (b7 (ag 0) 5) [ag 6])),bV (jm U)]
def Ud:Fn:=⟨[0,1,2,3],8,Y,EY⟩
noncomputable def EZ:CS:=[wW (b5 .Gt (cH dO (b7 (ag 0) 13)) (aP 0)) [fq (c4 "look_at" (ag 0) [e5 .pop (b7 (ag 0) 13) []])]]
def Ue:Fn:=⟨[0],2,Y,EZ⟩
noncomputable def Ug:CS:=[bV (c4 "classes" (b7 (ag 0) 9) [])]
def Uh:Fn:=⟨[0],1,Y,Ug⟩
noncomputable def Ui:CS:=[bV (c4 "members" (b7 (ag 0) 9) [ag 1])]
def Uj:Fn:=⟨[0,1],2,Y,Ui⟩
noncomputable def Uk:CS:=[bV (cH qm (eB Y [N,N,W 0] (bt 1) (b6 (c4 "members" (ag 0) [ag 1])) [] (c4 "node" (ag 2) [ag 1])))]
def Ul:Fn:=⟨[0,1],4,Y,Uk⟩
noncomputable def Um:CS:=[bP (dH 1) (j2 (b5 dh (uc (ag 0) (aP 1)) (aG "-")) (j1 (ag 0) (aP 1)) (ag 0)),dv (ub (rS (Ls iO .LtE (aP 0) (cH dO (ag 1)) (aP 1000))) (b5 gZ (eB Y [N,N] (bt 1) (b6 (ag 1)) [b5 gY (ag 1) (aG "0123456789")] (ag 1)) (dJ Y []))) [bV ud] [],bV (cH .int (ag 0))]
def Un:Fn:=⟨[0],4,Y,Um⟩
noncomputable def Uo:CS:=[dv (x_call 86 [ag 2]) [rT] [],bP (dH 5) (x_call 91 [ag 2]),bP (dH 6) (cJ cV (dJ Y [aE [aG "alike",ag 3,ag 3]]) (cH .list (ag 4))),j3 (jI [7,8,9]) (b6 (ag 6)) [dv (b5 gY (ag 7) (aE [aG "alike",aG "unlike"])) [rT] [],bP (dH 10) (eB Y [N,N,W 5] (bt 1) (b6 (cJ cV (x_call 91 [ag 8]) (x_call 91 [ag 9]))) [b5 gY (ag 1) (ag 2)] (ag 1)),dv (b5 gZ (ag 10) (dJ Y [])) [rT] []],bP (f7 (ag 0) 14) (ag 1),bP (f7 (ag 0) 15) (ag 2),bP (f7 (ag 0) 16) (ag 3),bP (f7 (ag 0) 17) (cH gM (ag 4))]
def Up:Fn:=⟨[0,1,2,3,4],16,Y,Uo⟩
noncomputable def Uq:CS:=[dv (ub (b5 .Gt (cH dO (ag 0)) (aP 1)) (b5 gY (bj (ag 0) (aP 0)) (ag 1))) [rT] [],bV (bj (ag 1) (bj (ag 0) (aP 0)))]
def Ur:Fn:=⟨[0,1],4,Y,Uq⟩
noncomputable def Us:CS:=[bV (dJ Y [dC 477 U [EP (ag 0) "-turn",aE [ag 0,a6 482,a6 483],aE [ag 0,a6 483,a6 482],aE []],dC 477 U [EP (ag 0) "-put",aE [ag 0,aE [ag 0,a6 482,a6 483],a6 484],aE [ag 0,a6 482,aE [ag 0,a6 483,a6 484]],aE []],dC 477 U [EP (ag 0) "-unit",aE [ag 0,a6 482,aE [ag 1]],a6 482,aE []]])]
def Ut:Fn:=⟨[0,1],6,U,Us⟩
noncomputable def E0:CS:=[bP (f7 (ag 0) 18) (ag 1)]
def Uu:Fn:=⟨[0,1],2,Y,E0⟩
noncomputable def Uv:CS:=[bP (dH 1) (aE [aG "0"]),bV (cJ cV (cJ cV (x_call 502 [aG "add",aG "0"]) (x_call 502 [aG "mul",aG "1"])) (dJ Y [dC 477 U [aG "neg-add",aE [aG "add",a6 482,aE [aG "neg",a6 482]],ag 1,aE []],dC 477 U [aG "neg-neg",aE [aG "neg",aE [aG "neg",a6 482]],a6 482,aE []],dC 477 U [aG "neg-mul",aE [aG "mul",aE [aG "neg",a6 482],a6 483],aE [aG "neg",aE [aG "mul",a6 482,a6 483]],aE []],dC 477 U [aG "mul-zero",aE [aG "mul",a6 482,ag 1],ag 1,aE []],dC 477 U [aG "spread",aE [aG "mul",a6 482,aE [aG "add",a6 483,a6 484]],aE [aG "add",aE [aG "mul",a6 482,a6 483],aE [aG "mul",a6 482,a6 484]],aE []],dC 477 U [aG "gather",aE [aG "add",aE [aG "mul",a6 482,a6 483],aE [aG "mul",a6 482,a6 484]],aE [aG "mul",a6 482,aE [aG "add",a6 483,a6 484]],aE []],dC 477 U [aG "round",aE [cH .str (b7 (ag 0) 18)],ag 1,aE []]]))]
def Uw:Fn:=⟨[0],8,U,Uv⟩
noncomputable def E1:CS:=[bP (dH 3) (j2 (wV (b5 dh (cH dO (ag 1)) (aP 1)) (b5 gY (bj (ag 1) (aP 0)) (ag 2))) (x_call 455 [bj (ag 1) (aP 0)]) ud),dv (b5 .IsNot (ag 3) ud) [bV (cJ nA (ag 3) (b7 (ag 0) 18))] [],dv (b5 gY (aE [bj (ag 1) (aP 0),cH dO (ag 1)]) (aE [aE [aG "add",aP 3],aE [aG "mul",aP 3],aE [aG "neg",aP 2]])) [bV (x_call 495 [ag 1,ag 2])] [],bP (dH 4) (eB Y [N,N,W 2,W 0] (bt 1) (b6 (j1 (ag 1) (aP 1))) [] (c4 "value" (ag 3) [ag 1,ag 2])),dv (b5 dh (bj (ag 1) (aP 0)) (aG "neg")) [bV (cJ nA (Tc (bj (ag 4) (aP 0))) (b7 (ag 0) 18))] [],bV (cJ nA (j2 (b5 dh (bj (ag 1) (aP 0)) (aG "add")) (cJ cV (bj (ag 4) (aP 0)) (bj (ag 4) (aP 1))) (cJ .Mult (bj (ag 4) (aP 0)) (bj (ag 4) (aP 1)))) (b7 (ag 0) 18))]
def Ux:Fn:=⟨[0,1,2],8,Y,E1⟩
noncomputable def Uy:CS:=[bP (iA [1,2]) (aE [aE [aG "true"],aE [aG "false"]]),bV (cJ cV (cJ cV (x_call 502 [aG "and",aG "true"]) (x_call 502 [aG "or",aG "false"])) (dJ Y [dC 477 U [aG "and-twice",aE [aG "and",a6 482,a6 482],a6 482,aE []],dC 477 U [aG "or-twice",aE [aG "or",a6 482,a6 482],a6 482,aE []],dC 477 U [aG "and-false",aE [aG "and",a6 482,ag 2],ag 2,aE []],dC 477 U [aG "or-true",aE [aG "or",a6 482,ag 1],ag 1,aE []],dC 477 U [aG "and-not",aE [aG "and",a6 482,aE [aG "not",a6 482]],ag 2,aE []],dC 477 U [aG "or-not",aE [aG "or",a6 482,aE [aG "not",a6 482]],ag 1,aE []],dC 477 U [aG "not-not",aE [aG "not",aE [aG "not",a6 482]],a6 482,aE []],dC 477 U [aG "not-and",aE [aG "not",aE [aG "and",a6 482,a6 483]],aE [aG "or",aE [aG "not",a6 482],aE [aG "not",a6 483]],aE []],dC 477 U [aG "not-or",aE [aG "not",aE [aG "or",a6 482,a6 483]],aE [aG "and",aE [aG "not",a6 482],aE [aG "not",a6 483]],aE []],dC 477 U [aG "spread",aE [aG "and",a6 482,aE [aG "or",a6 483,a6 484]],aE [aG "or",aE [aG "and",a6 482,a6 483],aE [aG "and",a6 482,a6 484]],aE []],dC 477 U [aG "imp",aE [aG "imp",a6 482,a6 483],aE [aG "or",aE [aG "not",a6 482],a6 483],aE []]]))]
def Uz:Fn:=⟨[0],8,U,Uy⟩
noncomputable def E2:CS:=[dv (b5 .In (ag 1) (aE [aE [aG "true"],aE [aG "false"]])) [bV (b5 dh (bj (ag 1) (aP 0)) (aG "true"))] [],dv (b5 gY (aE [bj (ag 1) (aP 0),cH dO (ag 1)]) (aE [aE [aG "and",aP 3],aE [aG "or",aP 3],aE [aG "imp",aP 3],aE [aG "not",aP 2]])) [bV (x_call 495 [ag 1,ag 2])] [],bP (dH 3) (eB Y [N,N,W 2,W 0] (bt 1) (b6 (j1 (ag 1) (aP 1))) [] (c4 "value" (ag 3) [ag 1,ag 2])),dv (b5 dh (bj (ag 1) (aP 0)) (aG "not")) [bV (rS (bj (ag 3) (aP 0)))] [],dv (b5 dh (bj (ag 1) (aP 0)) (aG "and")) [bV (wV (bj (ag 3) (aP 0)) (bj (ag 3) (aP 1)))] [],bV (j2 (b5 dh (bj (ag 1) (aP 0)) (aG "or")) (ub (bj (ag 3) (aP 0)) (bj (ag 3) (aP 1))) (ub (rS (bj (ag 3) (aP 0))) (bj (ag 3) (aP 1))))]
def UA:Fn:=⟨[0,1,2],6,Y,E2⟩
noncomputable def UB:CS:=[bP (dH 1) (aE [aG "nil"]),bV (dJ Y [dC 477 U [aG "app-nil",aE [aG "app",ag 1,a6 482],a6 482,aE []],dC 477 U [aG "app-cons",aE [aG "app",aE [aG "cons",a6 482,a6 483],a6 484],aE [aG "cons",a6 482,aE [aG "app",a6 483,a6 484]],aE []],dC 477 U [aG "app-end",aE [aG "app",a6 482,ag 1],a6 482,aE []],dC 477 U [aG "app-put",aE [aG "app",aE [aG "app",a6 482,a6 483],a6 484],aE [aG "app",a6 482,aE [aG "app",a6 483,a6 484]],aE []],dC 477 U [aG "rev-nil",aE [aG "rev",ag 1],ag 1,aE []],dC 477 U [aG "rev-cons",aE [aG "rev",aE [aG "cons",a6 482,a6 483]],aE [aG "app",aE [aG "rev",a6 483],aE [aG "cons",a6 482,ag 1]],aE []],dC 477 U [aG "rev-app",aE [aG "rev",aE [aG "app",a6 482,a6 483]],aE [aG "app",aE [aG "rev",a6 483],aE [aG "rev",a6 482]],aE []],dC 477 U [aG "rev-rev",aE [aG "rev",aE [aG "rev",a6 482]],a6 482,aE []]])]
def UC:Fn:=⟨[0],6,U,UB⟩
noncomputable def E3:CS:=[dv (b5 dh (ag 1) (aE [aG "nil"])) [bV (aE [])] [],dv (b5 gY (aE [bj (ag 1) (aP 0),cH dO (ag 1)]) (aE [aE [aG "cons",aP 3],aE [aG "app",aP 3],aE [aG "rev",aP 2]])) [bV (x_call 495 [ag 1,ag 2])] [],bP (dH 3) (eB Y [N,N,W 2,W 0] (bt 1) (b6 (j1 (ag 1) (aP 1))) [] (c4 "value" (ag 3) [ag 1,ag 2])),dv (b5 gZ (eB Y [N,N,N,N] (bt 1) (b6 (j2 (b5 dh (bj (ag 1) (aP 0)) (aG "cons")) (j1 (ag 3) (aP 1)) (ag 3))) [rS (cH t8 (ag 1))] (ag 1)) (dJ Y [])) [rT] [],dv (b5 dh (bj (ag 1) (aP 0)) (aG "rev")) [bV (Td (bj (ag 3) (aP 0)))] [],bV (j2 (b5 dh (bj (ag 1) (aP 0)) (aG "cons")) (cJ cV (aE [bj (ag 3) (aP 0)]) (bj (ag 3) (aP 1))) (cJ cV (bj (ag 3) (aP 0)) (bj (ag 3) (aP 1))))]
def UD:Fn:=⟨[0,1,2],7,Y,E3⟩
noncomputable def E4:CS:=[bP (f7 (ag 0) 19) (cJ ox (cJ .Pow (aP 2) (ag 1)) (aP 1))]
def UE:Fn:=⟨[0,1],2,Y,E4⟩
noncomputable def UG:CS:=[bP (iA [1,2]) (aE [aE [aG "none"],aE [aG "all"]]),bV (cJ cV (cJ cV (x_call 502 [aG "union",aG "none"]) (x_call 502 [aG "meet",aG "all"])) (dJ Y [dC 477 U [aG "union-twice",aE [aG "union",a6 482,a6 482],a6 482,aE []],dC 477 U [aG "meet-twice",aE [aG "meet",a6 482,a6 482],a6 482,aE []],dC 477 U [aG "union-meet",aE [aG "union",a6 482,aE [aG "meet",a6 482,a6 483]],a6 482,aE []],dC 477 U [aG "meet-union",aE [aG "meet",a6 482,aE [aG "union",a6 482,a6 483]],a6 482,aE []],dC 477 U [aG "union-not",aE [aG "union",a6 482,aE [aG "not",a6 482]],ag 2,aE []],dC 477 U [aG "meet-not",aE [aG "meet",a6 482,aE [aG "not",a6 482]],ag 1,aE []],dC 477 U [aG "spread",aE [aG "meet",a6 482,aE [aG "union",a6 483,a6 484]],aE [aG "union",aE [aG "meet",a6 482,a6 483],aE [aG "meet",a6 482,a6 484]],aE []],dC 477 U [aG "less",aE [aG "less",a6 482,a6 483],aE [aG "meet",a6 482,aE [aG "not",a6 483]],aE []],dC 477 U [aG "not-less",aE [aG "not",aE [aG "less",a6 482,a6 483]],aE [aG "union",aE [aG "not",a6 482],a6 483],aE []]]))]
def UH:Fn:=⟨[0],8,U,UG⟩
noncomputable def E5:CS:=[dv (b5 .In (ag 1) (aE [aE [aG "none"],aE [aG "all"]])) [bV (j2 (b5 dh (bj (ag 1) (aP 0)) (aG "all")) (b7 (ag 0) 19) (aP 0))] [],dv (b5 gY (aE [bj (ag 1) (aP 0),cH dO (ag 1)]) (aE [aE [aG "union",aP 3],aE [aG "meet",aP 3],aE [aG "less",aP 3],aE [aG "not",aP 2]])) [bV (x_call 495 [ag 1,ag 2])] [],bP (dH 3) (eB Y [N,N,W 2,W 0] (bt 1) (b6 (j1 (ag 1) (aP 1))) [] (c4 "value" (ag 3) [ag 1,ag 2])),dv (b5 dh (bj (ag 1) (aP 0)) (aG "not")) [bV (cJ ox (b7 (ag 0) 19) (bj (ag 3) (aP 0)))] [],dv (b5 dh (bj (ag 1) (aP 0)) (aG "union")) [bV (cJ .BitOr (bj (ag 3) (aP 0)) (bj (ag 3) (aP 1)))] [],bV (j2 (b5 dh (bj (ag 1) (aP 0)) (aG "meet")) (cJ .BitAnd (bj (ag 3) (aP 0)) (bj (ag 3) (aP 1))) (cJ .BitAnd (bj (ag 3) (aP 0)) (cJ ox (b7 (ag 0) 19) (bj (ag 3) (aP 1)))))]
def UI:Fn:=⟨[0,1,2],6,Y,E5⟩
noncomputable def E6:CS:=[bP (dH 2) (bj (ag 0) (aG "at")),bP (iz (ag 0) (aG "at")) (cJ cV (ag 2) (aP 1)),dv (b5 iO (ag 2) (cH dO (bj (ag 0) (aG "cells")))) [bV (cJ nA (bj (bj (ag 0) (aG "cells")) (ag 2)) (ag 1))] [],bV (cJ nA (cJ nA (cJ cV (cJ cV (cJ .Mult (cJ .Mult (aP 9) (ag 2)) (ag 2)) (cJ .Mult (aP 4) (ag 2))) (aP 3)) (aP 53)) (ag 1))]
def UJ:Fn:=⟨[0,1],4,Y,E6⟩
noncomputable def oU:CS:=[bP (iA [1,2]) (aE [x_call 627 [ag 0,aP 4],cJ cV (aP 2) (x_call 627 [ag 0,aP 2])]),dv (b5 dh (ag 1) (aP 0)) [bP (dH 3) (dJ Y [aE [jm Y,jm Y],aE [jm Y,jm U],aE [jm U,jm Y],aE [jm U,jm U]]),bV (aE [dC 557 U [],dJ Y [aE [aG "and",aP 2],aE [aG "or",aP 2],aE [aG "not",aP 1],aE [aG "imp",aP 2]],aG "true",ag 3])] [],dv (b5 dh (ag 1) (aP 1)) [bV (aE [dC 531 U [ag 2],dJ Y [aE [aG "add",aP 2],aE [aG "mul",aP 2],aE [aG "neg",aP 1]],aG "0",dJ Y [aE [aP 0,aP 1],aE [aP 1,aP 1],aE [aP 1,aP 0],aE [cJ ox (ag 2) (aP 1),aP 1]]])] [],dv (b5 dh (ag 1) (aP 2)) [bV (aE [dC 583 U [],dJ Y [aE [aG "app",aP 2],aE [aG "rev",aP 1],aE [aG "cons",aP 2]],aG "nil",dJ Y [aE [aE [aG "p"],aE [aG "q",aG "p"]],aE [aE [],aE [aG "p"]]]])] [],bV (aE [dC 616 U [aP 2],dJ Y [aE [aG "union",aP 2],aE [aG "meet",aP 2],aE [aG "not",aP 1],aE [aG "less",aP 2]],aG "all",dJ Y [aE [aP 0,aP 1],aE [aP 1,aP 2],aE [aP 3,aP 1],aE [aP 2,aP 2]]])]
def UK:Fn:=⟨[0],9,Y,oU⟩
noncomputable def E7:CS:=[bV (eB Y [N,N,N,W 1,W 0] (jI [1,2]) (b6 (ag 2)) [] (c4 "value" (ag 4) [ag 3,mN Y (jl (aG "x") (ag 1) (jl (aG "y") (ag 2) iB))]))]
def UL:Fn:=⟨[0,1,2],3,Y,E7⟩
noncomputable def E8:CS:=[bP (dH 5) (dC 446 Y []),j3 (bt 6) (b6 (aE [aG "x",aG "y",ag 3])) [fq (c4 "add" (ag 5) [ag 6,aE []])],j3 (bt 7) (oT (aP 3)) [bP (iA [8,9]) (bj (ag 2) (x_call 627 [ag 0,cH dO (ag 2)])),fq (c4 "add" (ag 5) [ag 8,cH gM (eB Y [N,N,N,W 0,W 5] (bt 1) (oT (ag 9)) [] (x_call 627 [ag 3,c4 "size" (ag 4) []]))])],bP (dH 11) (eB Y [N,N,N,W 5,W 1,W 4] (bt 1) (oT (c4 "size" (ag 5) [])) [] (x_call 639 [ag 4,c4 "term" (b7 (ag 3) 8) [ag 1],ag 5])),j3 (bt 10) (oT (c4 "size" (ag 5) [])) [dv (b5 iO (e5 lQ (ag 11) [bj (ag 11) (ag 10)]) (ag 10)) [fq (c4 "merge" (ag 5) [ag 10,e5 lQ (ag 11) [bj (ag 11) (ag 10)],aE [aG "told",aG "worth"]])] []],fq (c4 "settle" (ag 5) []),bV (aE [ag 5,ag 11])]
def UM:Fn:=⟨[0,1,2,3,4],17,Y,E8⟩
noncomputable def oV:CS:=[dv (b5 dh (bj (bj (ag 0) (aP 0)) (aP 0)) (aG "?")) [bV (dJ Y [bj (ag 0) (aP 0)])] [],bP (dH 1) (dJ Y []),j3 (bt 2) (b6 (j1 (ag 0) (aP 1))) [bP (dH 1) (cJ cV (ag 1) (eB Y [N,N,W 1] (bt 1) (b6 (x_call 649 [ag 2])) [b5 gY (ag 1) (ag 2)] (ag 1)))],bV (ag 1)]
def UN:Fn:=⟨[0],4,U,oV⟩
noncomputable def E9:CS:=[dv (b5 dh (bj (bj (ag 1) (aP 0)) (aP 0)) (aG "?")) [bV (bj (ag 2) (bj (ag 1) (aP 0)))] [],bV (e5 .get (ag 0) [cJ cV (aE [bj (ag 1) (aP 0)]) (cH gM (eB Y [N,N,N,W 0,W 2] (bt 1) (b6 (j1 (ag 1) (aP 1))) [] (x_call 654 [ag 3,ag 1,ag 4])))])]
def UO:Fn:=⟨[0,1,2],4,Y,E9⟩
noncomputable def Fb:CS:=[bP (iA [3,4,5]) (aE [cH mM (x_call 649 [ag 2]),dJ Y [mN Y iB],dJ U []]),j3 (bt 6) (b6 (ag 3)) [bP (dH 4) (Te [N,N,N,N,N,W 0,W 6] (bt 1) (b6 (ag 4)) (bt 2) (b6 (ag 5)) (cH oS (cJ cV (cH .listItems (ag 1)) (dJ Y [aE [ag 6,ag 2]]))))],j3 (bt 7) (b6 (ag 4)) [bP (dH 8) (x_call 654 [ag 1,ag 2,ag 7]),dv (b5 .IsNot (ag 8) ud) [fq (e5 iC (ag 5) [aE [ag 8,cH gM (eB Y [N,N,W 7] (bt 1) (b6 (ag 3)) [] (aE [ag 1,bj (ag 2) (ag 1)]))]])] []],bV (cH mM (ag 5))]
def UP:Fn:=⟨[0,1,2],13,U,Fb⟩
noncomputable def wZ:CS:=[dv (b5 dh (bj (bj (ag 1) (aP 0)) (aP 0)) (aG "?")) [bV (c4 "term" (b7 (ag 0) 8) [bj (ag 2) (bj (ag 1) (aP 0))])] [],bV (cJ cV (uc (ag 1) (aP 1)) (cH gM (eB Y [N,N,N,W 0,W 2] (bt 1) (b6 (j1 (ag 1) (aP 1))) [] (x_call 664 [ag 3,ag 1,ag 4]))))]
def UQ:Fn:=⟨[0,1,2],4,Y,wZ⟩
noncomputable def Fc:CS:=[bP (dH 1) (mN U (jl (aG "cells") (uc (ag 0) (aP 24)) (jl (aG "at") (aP 0) iB))),bP (iA [2,3,4,5]) (x_call 634 [ag 1]),bP (iA [6,7]) (x_call 644 [ag 1,ag 2,ag 3,ag 4,ag 5]),bP (dH 8) (eB Y [N,N,W 7] (bt 1) (b6 (ag 7)) [] (e5 lQ (ag 2) [ag 1])),dv (b5 gZ (eB Y [N,N,W 6] (bt 1) (oT (c4 "size" (ag 6) [])) [] (c4 "find" (ag 2) [ag 1])) (ag 8)) [bV (jm Y)] [],bP (iA [10,11]) (aE [mN U iB,cH qm (ag 8)]),j3 (bt 9) (oT (c4 "size" (ag 6) [])) [bP (iz (ag 10) (cJ cV (aE [c4 "op" (b7 (ag 6) 8) [ag 9]]) (cH gM (eB Y [N,N,W 8] (bt 1) (b6 (c4 "kids" (b7 (ag 6) 8) [ag 9])) [] (bj (ag 2) (ag 1)))))) (bj (ag 8) (ag 9))],bP (iA [12,13]) (aE [c4 "rules" (ag 2) [],dC 234 U [ag 6]]),j3 (bt 14) (oT (aP 2)) [bP (dH 15) (bj (ag 12) (x_call 627 [ag 1,cH dO (ag 12)])),bP (dH 16) (c4 "run" (ag 13) [x_call 207 [b7 (ag 15) 15]]),dv (b5 gZ (ag 16) (x_call 659 [ag 11,ag 10,b7 (ag 15) 15])) [bV (jm Y)] [],j3 (jI [17,18]) (b6 (uc (ag 16) (aP 3))) [dv (b5 gZ (x_call 639 [ag 2,x_call 664 [ag 6,b7 (ag 15) 16,cH oS (ag 18)],ag 5]) (bj (ag 7) (ag 17))) [bV (jm Y)] []]],bV (jm U)]
def Lw:Fn:=⟨[0],33,Y,Fc⟩
end
def Lx:List (Nat×Fn):=[(79,Tj),(86,To),(91,Tr),(96,Tt),(110,Tv),(117,Tx),(122,Tz),(129,TB),(155,TC),(162,TF),(174,TG),(207,TJ),(221,TK),(226,ET),(231,TN),(252,TP),(259,TQ),(266,TS),(273,Lv),(280,TV),(287,TY),(292,T1),(334,T3),(341,T5),(346,T7),(351,T8),(363,T9),(370,Ub),(384,Uc),(391,Ud),(398,Ue),(412,Uh),(419,Uj),(424,Ul),(455,Un),(467,Up),(495,Ur),(502,Ut),(516,Uu),(523,Uw),(528,Ux),(549,Uz),(554,UA),(575,UC),(580,UD),(601,UE),(608,UH),(613,UI),(627,UJ),(634,UK),(639,UL),(644,UM),(649,UN),(654,UO),(659,UP),(664,UQ),(669,Lw)]
def j4(f:Nat):Option Fn:=Lx.lookup f
noncomputable def LB:List (Nat×List (String×Nat)):=[(198,[("size",117),("take",122),("require",129),("op",155),("kids",162),("term",174)]),(234,[("steps",226),("run",231)]),(316,[("make",259),("size",266),("find",273),("merge",280),("members",287),("classes",292)]),(446,[("size",341),("node",346),("add",351),("look_at",363),("find",370),("merge",384),("join",391),("settle",398),("classes",412),("members",419),("nodes_of",424)]),(477,[]),(531,[("rules",523),("value",528)]),(557,[("rules",549),("value",554)]),(583,[("rules",575),("value",580)]),(616,[("rules",608),("value",613)])]
def rU(C:Nat)(m:String):Option Nat:=(LB.lookup C).bind λl=>l.lookup m
noncomputable def rV:List (Nat×Option Nat):=[(198,W 110),(234,W 221),(316,W 252),(446,W 334),(477,W 467),(531,W 516),(557,N),(583,N),(616,W 601)]
def Fd(C:Nat):Option (Option Nat):=rV.lookup C
noncomputable def LD:List (Nat×D):=[(482,aw [bl (a0 "?a")]),(483,aw [bl (a0 "?b")]),(484,aw [bl (a0 "?c")])]
def LG(k:Nat):Option D:=LD.lookup k
theorem ue[BEq a][LawfulBEq a]{k:a}{v:b}{l:List (a×b)}(h:l.lookup k=W v):(k,v)∈l:=by
 induction l with
 |nil=>show Option.noConfusion rfl (heq_of_eq h)
 |cons p r c=>
  rw[pM]at h
  by_cases e:(k==p.1)=U
  .rw [e]at h
   rwa[<-L h,eq_of_beq e];show a7
  .rw [Bool.eq_false_iff.mpr e]at h
   show bq _ (c h)
noncomputable def ug:List Nat:=[96,174,207,502,523,549,575,608]
def tb:Tab:=⟨LG,rU,Fd,λf=>ug.contains f⟩
abbrev run(n:Nat):mH:=EO tb j4 n
theorem UR(e:(H1 a).get? b=W o):b<670:=by
 have:=dt e
 unfold H1 at this
 rwa[absHeap_size]at this
theorem US(P:dg):∃b o,(H1 P).get? b=W o/\b=669:=by
 show x2 669 (oB P 669) ⟨(JJ _ _ _).mpr ⟨by unfold H1;rwa[absHeap_at];rfl,rfl⟩,rfl⟩
structure Step (fr:List aR) (g:G) (s:aA) (g':G) (s':aA):Prop where
 ext:Ext fr g s.heap g' s'.heap
 gens:s'.gens=s.gens
 os:s'.os=s.os
theorem Step.refl(a:List aR)(g:G)(s:H):Step a g s g s:=⟨.refl ..,rfl,rfl⟩
theorem Step.trans{fr:List aR}(x:Step fr g s c d)(y:Step fr c d a b):Step fr g s a b :=
 ⟨x.ext.trans y.ext,y.gens.trans x.gens,y.os.trans x.os⟩
theorem Step.weaken{e d:List aR}(x:Step e g s b c)(h:∀a∈e,a∈d):Step d g s b c:=⟨x.ext.weaken h,x.gens,x.os⟩
theorem Step.nil{c:List aR}(x:Step [] g s a b):Step c g s a b:=x.weaken (λz h=>aF h bc)
structure Base (w:aU) (h:b0):Prop where
 y:mD w h
 g:∃mg,h.Ns lu mg
 b:∃mb,h.Ns sT mb/\∀x:bu,x≠ "__name__" ->mb x=bootBuiltins x
 nl:h.NoLimit
structure Inv (w:aU) (g:G) (s:aA) (σ:St):Prop where
 base:Base w s.heap
 hi:∀a,g.Mt a->670<=a
 jn:∀a∈g.Z,a<s.heap.objs.size
 sat:Sat w g s.heap σ
theorem OR.lt(r:OR w g h p o):p.1<h.objs.size/\p.2<h.objs.size:=by
 induction o with
 |list c=>show oK r λb n e a z=>?_;rwa[e];show⟨dt a,dt a⟩
 |dict c=>show oK r λb n e a z=>?_;rwa[e];show⟨dt a,dt a⟩
 |inst C l=>show tP r λb n e a d z=>?_;show⟨dt a,dt d⟩
theorem Sat.low(x:Sat w g h σ)(d:g.Ft a):a<h.objs.size:=by
 obtain⟨p,f,e⟩:=d
 obtain⟨n,c⟩:=lD f
 have b:n<σ.length:=by rwa[x.len];show(cD.mp c).1
 have:=(x.obj n p _ c (dn b)).lt
 rcases e with rfl|rfl
 .show this.1
 .show this.2
theorem mD.size(b:mD w h):670<=h.objs.size:=by
 show nH (US w.params) λa o e c=>?_;obtain rfl:=c
 show dt (b _ _ e)
theorem Base.keeps{w:aU}{h c:b0}(B:Base w h)(k:∀b o,b<670->h.get? b=W o->c.get? b=W o):Base w c where
 y:=λb o e=>k b o (UR e) (B.y b o e)
 g:=B.g.elim λm a=>⟨m,a.at' λo e=>k _ o (br ..) e⟩
 b:=aV B.b λm a q=>⟨m,a.at' λo e=>k _ o (dm _) e,q⟩
 nl:=aV B.nl λm a q=>⟨m,a.at' λo e=>k _ o (br ..) e,q⟩
theorem Inv.mO(I:Inv w g s b):g.iT s.heap:=λa c=>by
 rcases c with c|c
 .show I.sat.low c
 .show I.jn a c
theorem Inv.go{w:aU}{j:List aR}{g d:G}{s f:H}{l c:St}(I:Inv w g s l)(x:Step j g s d f)(sat:Sat w d f.heap c)(h:∀a∈j,a∈g.Z):Inv w d f c where
 base:=I.base.keeps λb o k e=>x.ext.keep b o (λq=>aF k (i8.mpr (I.hi b (aY q)))) (λq=>aF k (i8.mpr (I.hi b (aW (h b q))))) e
 hi:=λa i=>(x.ext.mt i).elim (I.hi a) λq=>P I.base.y.size q
 jn:=λa i=>bg (I.jn a (x.ext.z▸i)) x.ext.size
 sat:=sat
theorem Inv.bz(I:Inv w g s d)(x:Step [] g s b c)(e:Sat w b c.heap a):Inv w b c a:=I.go x e (λz h=>aF h bc)
section
variable{w:aU}{g:G}{h h':b0}{fr:List aR}(k:∀b o,b∉fr->h.get? b=aa o->h'.get? b=aa o)(jH:∀a∈fr,a∈g.Z)
include k jH
theorem R.cA :R w g h v d->R w g h' v d:=R.mono (λz z b a=>⟨k _ _ (λq=>a (aW (jH _ q))) b,a⟩) λz z e=>e
theorem RL.cA :RL w g h v d->RL w g h' v d:=RL.mono (λz z b a=>⟨k _ _ (λq=>a (aW (jH _ q))) b,a⟩) λz z e=>e
theorem RE.cA :RE w g h v d->RE w g h' v d:=RE.mono (λz z b a=>⟨k _ _ (λq=>a (aW (jH _ q))) b,a⟩) λz z e=>e
theorem RA.cA :RA w g h v d->RA w g h' v d:=RA.mono (λz z b a=>⟨k _ _ (λq=>a (aW (jH _ q))) b,a⟩) λz z e=>e
end
theorem OR.cA{fr:List aR}(k:∀b o,b∉fr->h.get? b=W o->h'.get? b=W o)(c:∀a∈fr,a∈g.Z)(i:p.1∉fr/\p.2∉fr)(r:OR w g h p o):OR w g h' p o:=by
 induction o with
 |list m=>show tP r λd n e f z j=>?_;show x2 d n ⟨e,k _ _ i.1 f,z,j.cA k c⟩
 |dict m=>show nI r λd n e f z q j=>?_;show x2 d n ⟨e,k _ _ i.1 f,z,q,j.cA k c⟩
 |inst C l=>show tP r λd n e f s t=>?_;show x2 d n ⟨e,k _ _ i.1 f,k _ _ i.2 s,t.cA k c⟩
theorem Sat.cA{w:aU}{g:G}{h h':b0}{fr:List aR}{e:St}(x:Sat w g h e)(k:∀b o,b∉fr->h.get? b=W o->h'.get? b=W o)(c:∀a∈fr,a∈g.Z):Sat w g h' e where
 len:=x.len
 obj:=λn p o d f=>(x.obj n p o d f).cA k c ⟨λq=>x.fz p.1 ⟨p,cN d,aY rfl⟩ (c _ q),λq=>x.fz p.2 ⟨p,cN d,aW rfl⟩ (c _ q)⟩
 apart:=x.apart
 fz:=x.fz
theorem Step.cA{fr:List aR}(k:∀b o,b∉fr->s.heap.get? b=W o->h'.get? b=W o)(a:s.heap.objs.size<=h'.objs.size):
 Step fr g s g {s with heap:=h',drawn:=dr,toks:=tk}:=⟨⟨rfl,⟨[],by simp,λz h=>aF h bc⟩,λb o z c e=>k b o c e,a⟩,rfl,rfl⟩
theorem Step.toks{fr:List aR}(a:Nat):Step fr g s g {s with toks:=a}:=⟨.refl ..,rfl,rfl⟩
noncomputable def own(env:c8):List aR:=env.locals::env.cells.map (·.2)
noncomputable def fu(c:Bool)(env:c8):List aR:=env.locals::(if c then env.cells.map (·.2)else[])
theorem Fe :∀a∈fu c b,a∈own b:=λa d=>by
 induction c
 .simp only [fu,vi,if_false,bI]at d;rwa[d];show a7 ..
 .show d
structure bo (w:aU) (g:G) (h:b0) (env:c8) (ns:List (bu×gF)) (ρ:Fm):Prop where
 kind:env.scope.kind= lK
 names:env.scope.names=ns
 glob:env.globals=lu
 bi:env.builtins=sT
 len:ρ.length=ns.length
 nd:(ns.map (·.1)).Nodup
 loc:∃m,h.Ns env.locals m/\∀(i:Nat) x d,ns[i]?=aa (x,.local)->ρ[i]?=aa (aa d)->∃v,m x=aa v/\R w g h v d
 cell:∀(i:Nat) x k,ns[i]?=aa (x,k)->(k= fH\/k= eW)->∃c,env.cells.lookup x=aa c/\c≠env.locals/\∃vo,h.IsCell c vo/\∀d,ρ[i]?=aa (aa d)->∃v,vo=aa v/\R w g h v d
 apart:env.cells.Pairwise λx y=>x.2≠y.2
 z:env.locals∈g.Z
 zc:∀p∈env.cells,p.2∈g.Z
theorem uh{a:List (bu×gF)}(b:(a.map (·.1)).Nodup){i:Nat}{x:bu}{k:gF}(h:a[i]?=W (x,k)):a.lookup x=W k:=by
 induction a generalizing i with
 |nil=>trivial
 |cons p r c=>
  obtain⟨y,d⟩:=p
  rw[ea,i9]at b
  induction i using dS with
  |zero=>simp at h;clear c;obtain⟨rfl,rfl⟩:=h;simp[pM]
  |succ i=>
   simp only[Dh]at h
   have:x≠y:=by rintro rfl;show b.1 (ij (f:=(·.1)) (cN h))
   rwa[pM]
   have e:(x==y)=Y:=ef ‹_›
   rwa[e];show c b.2 h
section
variable{w:aU}{g g':G}{h h':b0}{env:c8}{ns:List (bu×gF)}{ρ:Fm}
theorem bo.qo(F:bo w g h env ns ρ):∀a∈own env,a∈g.Z:=λa b=>by
 rcases bB.mp b with rfl|b
 .show F.z
 .show ct a (b3.mp b) λp c=>?_;show F.zc p c
theorem bo.kindOf(F:bo w g h env ns ρ){i:Nat}(e:ns[i]?=W (x,k)):env.kindOf x=W k:=by
 unfold wi;rwa[F.names];show uh F.nd e
theorem bo.ext{fr:List aR}(F:bo w g h env ns ρ)(A:∀a,g.Ft a->a∉g.Z)(x:Ext fr g h g' h')(b:∀a∈fr,a∈g.Z)(B:∀a∈own env,a∉fr):bo w g' h' env ns ρ where
 kind:=F.kind
 names:=F.names
 glob:=F.glob
 bi:=F.bi
 len:=F.len
 nd:=F.nd
 loc:=by
  show aV (F.loc) λm Q r=>?_
  show⟨m,Q.at' λo e=>x.keep _ _ (λq=>A _ q F.z) (B _ (a7 ..)) e,λi y d f j=>?_⟩
  show aV (r i y d f j) λv l n=>?_
  show⟨v,l,n.ext x b⟩
 cell:=λi y k f j=>by
  obtain⟨c,p,s,H,⟨o,t,I⟩,r⟩:=F.cell i y k f j
  show⟨c,p,s,H,⟨o,x.keep _ _ (λq=>A _ q (F.zc _ (og p))) (B _ (by simp only[own,bB,b3];show aW ⟨_,(og p),rfl⟩)) t,I⟩,λd u=>?_⟩
  show aV (r d u) λv l n=>?_
  show⟨v,l,n.ext x b⟩
 apart:=F.apart
 z:=x.z▸F.z
 zc:=x.z▸F.zc
end
section
variable{w:aU}{g g':G}{A:bK}{E:az->aA->Prop}{s:aA}{env:c8}{ns:List (bu×gF)}{ρ:Fm}{σ:St}
theorem bo.step(F:bo w g s.heap env ns ρ)(I:Inv w g s σ)(x:Step [] g s g' a):bo w g' a.heap env ns ρ:=F.ext I.sat.fz x.ext (λz h=>aF h bc) (by simp)
noncomputable def w0(ns:List (bu×gF))(i:Nat)(x:bu):Bool:=match ns[i]? with
 |some (y,k)=>I (y=x)&&(k==.local||k== fH||k== eW)&& !(x==("__debug__" :bu))&& !(x==("__classdict__" :bu))
 |none=>Y
theorem UT(h:w0 ns i x=U):∃k,ns[i]?=W (x,k)/\(k= .local\/k= fH\/k= eW)/\(x==("__debug__" :bu))=Y/\(x==("__classdict__" :bu))=Y:=by
 unfold w0 at h
 split at h
 .rename_i y k e
  simp only[eu,iI,bX,decide_eq_true_eq,sN]at h
  obtain⟨⟨⟨rfl,a⟩,b⟩,c⟩:=h
  show⟨k,e,by rcases a with(a|a)|a<;>(first|show aY ‹_›|simp[a]),b,c⟩
 .contradiction
theorem bo.name(F:bo w g s.heap env ns ρ)(p:w0 ns i x=U)(n:ρ[i]?=W (W d))(h:∀v,R w g s.heap v d->a v s):
 V (ar pw w) A (bw (fE x b) env) a E s:=by
 show wx (UT p) λk e j q t=>?_
 show wpAny_Name ?_ q
 rcases j with rfl|j
 .show aV (F.loc) λm u r=>?_
  show aV (r i x d e n) λv y l=>?_
  show wpAny_loadName_local F.kind (F.kindOf e) u y (h v l)
 .obtain ⟨c,o,Z,z,f,r⟩:=F.cell i x k e j
  revert f;show ee z (r d n) λv l f=>?_
  rcases j with rfl|rfl
  .show wpAny_loadName_cell F.kind (F.kindOf e) o f (h v l)
  .show wpAny_loadName_free F.kind (F.kindOf e) o f (h v l) t
noncomputable def jK(c:Bool)(ns:List (bu×gF))(i:Nat)(x:bu):Bool:=match ns[i]? with
 |some (y,k)=>I (y=x)&&(k==.local||(c&&k== fH))
 |none=>Y
theorem Ff(h:jK c ns i x=U):∃k,ns[i]?=W (x,k)/\(k= .local\/(c=U/\k= fH)):=by
 unfold jK at h
 split at h
 .rename_i y k e
  simp only[eu,iI,bX,decide_eq_true_eq]at h
  show zY _ h λa=>?_
  show⟨k,e,a⟩
 .contradiction
theorem Fg(c:(ns.map (·.1)).Nodup){i j:Nat}{x:bu}{k d:gF}(e:ns[i]?=W (x,k))(f:ns[j]?=W (x,d)):i=j:=by
 have a:(ns.map (·.1))[i]?=W x:=![dy,e]
 have b:(ns.map (·.1))[j]?=W x:=![dy,f]
 show(Df (cD.mp a).1 c).mp (a.trans b.symm)
theorem ui(h:(ρ.set i (W a))[j]?=W (W d)):(i=j/\d=a)\/(i≠j/\ρ[j]?=W (W d)):=by
 rw[Jb]at h
 split at h
 .rename_i e
  subst e
  split at h
  .show aY ⟨rfl,(L (L h)).symm⟩
  .show nn h
 .rename_i e;show aW ⟨e,h⟩
theorem Ao{i:Nat}(e:ns[i]?=W (x,k))(h:ns[i]?=W (y,a)):x=y/\k=a:=cO (L (e.symm.trans h))
theorem bo.store(I:Inv w g s σ)(F:bo w g s.heap env ns ρ)(hs:jK l ns i x=U)(rv:R w g s.heap v d)
(h:∀P,Step (fu l env) g s g P->Sat w g P.heap σ->bo w g P.heap env ns (ρ.set i (aa d))->f () P):
 aj (ar pw w) A (storeName env x v) f E s:=by
 show aV (Ff hs) λk e hk=>?_
 show aV (F.loc) λm hm r=>?_
 rcases hk with rfl|⟨rfl,rfl⟩
 .show wpAny_storeName_local (F.kindOf e) hm (λh' hn p=>?_) (![F.kind])
  have B:∀b o,b∉[env.locals]->s.heap.get? b=aa o->h'.get? b=aa o:=λb o V e=>p.extBut b o (λq=>V (bB.mpr (aY q))) e
  have H:∀a∈[env.locals],a∈g.Z:=λa M=>bI.mp M▸F.z
  show h _ ((Step.cA (dr:=s.drawn) B (bC p.1.symm)).weaken (by simp[fu])) (I.sat.cA B H) ⟨F.kind,F.names,F.glob,F.bi,mj.trans F.len,F.nd,⟨_,hn,λj y K t L=>(ui L).elim (λq=>?_) λq=>?_⟩,λj y W t L=>?_,F.apart,F.z,F.zc⟩
  .have n:=Ao e (q.1.symm▸t)
   show⟨v,aJ n.1.symm,q.2.symm▸rv.cA B H⟩
  .show aV (r j y K t q.2) λu hu ru=>⟨u,(aL λz=>q.1 (Fg F.nd e (z▸t))).trans hu,ru.cA B H⟩
  .show (F.cell j y W t L).elim λc q=>q.2.2.elim λvo u=>⟨c,q.1,q.2.1,vo,u.1.sameBut p q.2.1,λK N=>(ui N).elim (λz=>?_) λz=>aV (u.2 K z.2) λa b r=>⟨a,b,r.cA B H⟩⟩
   have n:=(Ao e (z.1.symm▸t)).2
   show L.elim (λw=>lH (n.trans w)) λw=>lH (n.trans w)
 .show (F.cell i x fH e (aY rfl)).elim λc q=>q.2.2.elim λvo u=>?_
  show wpAny_storeName_cell F.kind (F.kindOf e) q.1 u.1 λh' Y p=>?_
  have Z:=og q.1
  have B:∀b o,b∉[c]->s.heap.get? b=aa o->h'.get? b=aa o:=λb o V e=>p.extBut b o (λq=>V (bB.mpr (aY q))) e
  have H:∀a∈[c],a∈g.Z:=λa M=>bI.mp M▸F.zc _ Z
  show h _ ((Step.cA (dr:=s.drawn) B (bC p.1.symm)).weaken λa M=>bB.mpr (aW (b3.mpr ⟨_,Z,(bI.mp M).symm⟩))) (I.sat.cA B H) ⟨F.kind,F.names,F.glob,F.bi,mj.trans F.len,F.nd,⟨m,hm.sameBut p (kY q.2.1),λj y K t L=>(ui L).elim (λz=>lH (Ao e (z.1.symm▸t)).2) λz=>aV (r j y K t z.2) λa b r=>⟨a,b,r.cA B H⟩⟩,λj y W t L=>?_,F.apart,F.z,F.zc⟩
  by_cases J:i=j
  .show ⟨c,(Ao e (J.symm▸t)).1▸q.1,q.2.1,aa v,Y,λK N=>(ui N).elim (λz=>⟨v,rfl,z.2.symm▸rv.cA B H⟩) λz=>aF J z.1⟩
  .show (F.cell j y W t L).elim λc' U=>U.2.2.elim λUU u'=>⟨c',U.1,U.2.1,UU,u'.1.sameBut p λUW=>J (Fg F.nd e (name_of_addr F.apart (UW▸og U.1) Z▸t)),λK N=>(ui N).elim (λz=>aF z.1 J) λz=>aV (u'.2 K z.2) λa b r=>⟨a,b,r.cA B H⟩⟩
end
def PE(w:aU)(g:G)(s:H)(c:St)(d:D)(Q:K->H->Prop):Prop :=
 ∀v b a,Step [] g s b a->Sat w b a.heap c->R w b a.heap v d->Q v a
section
variable{w:aU}{g g':G}{A:bK}{E:az->aA->Prop}{s:aA}{σ:St}{Q:az->aA->Prop}
theorem PE.here(I:Inv w g s σ)(h:PE w g s σ d Q)(r:R w g s.heap v d)(a:Nat):Q v {s with toks:=a}:=h v g _ (.toks a) I.sat r
theorem PE.same(I:Inv w g s σ)(h:PE w g s σ d Q)(r:R w g s.heap v d):Q v s:=h v g _ (.refl ..) I.sat r
theorem PE.step(h:PE w g s σ d Q)(x:Step [] g s g' a):PE w g' a σ d Q:=λv b e y c r=>h v b e (x.trans y) c r
theorem Step.push :Step [] g s g {s with heap:=s.heap.push o}:=⟨.push o,rfl,rfl⟩
theorem Inv.push(I:Inv w g s σ)(o:cC):Sat w g (s.heap.push o) σ:=I.sat.cA (fr:=[]) (λb a z e=>dF _ e) (by showλz h=>aF h bc)
theorem PE.push(I:Inv w g s σ)(h:PE w g s σ d Q)(r:R w g (s.heap.push o) (M s.heap.objs.size) d):Q (M s.heap.objs.size) {s with heap:=s.heap.push o} :=
 h _ g _ .push (I.push o) r
theorem PE.rL(I:Inv w g s σ)(h:PE w g s σ (aw b) Q)(c:a.length<=2^20)(d:RL w g s.heap a b):
 Q (M s.heap.objs.size) {s with heap:=s.heap.push (cP a.toArray 0)}:=h.push I (Pq.rL I.mO c d)
theorem PE.tW(I:Inv w g s σ)(h:PE w g s σ (ay b) Q)(c:a.length<=2^20)(d:RL w g s.heap a b):
 Q (M s.heap.objs.size) {s with heap:=s.heap.push (bO a.toArray 0)}:=h.push I (Pq.tW I.mO c d)
noncomputable def UX:O->D
 |.list l=> ay l
 |.dict l=> dG l
 |.inst C l=> bh C l
noncomputable def flat:D->Bool
 |.lst _=>Y
 |.ji _=>Y
 |.ins _ _=>Y
 |_=>U
theorem uj(e:look σ d=x):d=x\/∃n o,d= ak n/\σ[n]?=W o/\x=UX o:=by
 induction d using bJ<;>first|show aY e|skip
 rename_i n
 have e:(match σ[n]? with|some (aO l)=>ay l|some (a8 l)=> dG l|some (cz C l)=> bh C l|none=> ak n)=x:=e
 generalize q:σ[n]?=a;induction a with
 |none=>rw[q]at e;show aY e
 |some o=>rw[q]at e;show aW (x2 n o ⟨rfl,q,e▸by clear e q;induction o<;>rfl⟩)
theorem w1(e:look σ d=r)(h:flat r=U):d=r:=by
 rcases uj e with h|⟨n,o,z,z,rfl⟩
 .show h
 .clear e;induction o<;>show ff h
theorem jL(b:Inv w g s σ)(r:R w g s.heap v d)(e:look σ d= ay l):
 ∃a c n,v= M a/\s.heap.get? a=W (bO c n)/\c.size<=2^20/\RL w g s.heap c.toList l:=by
 rcases uj e with rfl|⟨n,o,rfl,f,e⟩
 .show k4 r λa c n e i z h f=>?_;show x3 a c n ⟨e,i,h,f⟩
 .show mx v r λa q j=>?_
  induction o<;>first|show D.noConfusion (show ay l=dG _ from e)|show D.noConfusion (show ay l=bh _ _ from e)|skip
  rwa[D.lst.inj e]
  show ix (b.sat.obj _ _ _ j f) λc m z k h p=>?_
  show x3 _ _ _ ⟨rfl,k,h,p⟩
theorem lR(r:R w g s.heap v d)(e:look σ d= aw l):
 d= aw l/\∃a b n,v= M a/\s.heap.get? a=W (cP b n)/\b.size<=2^20/\RL w g s.heap b.toList l:=by
 have:=w1 e rfl
 clear e;subst this
 show k4 r λa b n e c z f h=>?_
 show⟨rfl,a,b,n,e,c,f,h⟩
theorem w2:jw<670:=by show br ..
theorem qp(b:Inv w g s σ)(r:R w g s.heap v d)(e:look σ d= dG l):
 ∃a c n,v= M a/\(a==jw)=Y/\DictAt w g s.heap a c n l:=by
 rcases uj e with rfl|⟨n,o,rfl,h,e⟩
 .show z2 r λa c n e j k i f h=>?_;show x3 a c n ⟨e,k.2,⟨j,i,f,h⟩⟩
 .show mx v r λa u f=>?_
  induction o<;>first|show D.noConfusion (show dG l=ay _ from e)|show D.noConfusion (show dG l=bh _ _ from e)|skip
  rwa[D.ji.inj e]
  show nI (b.sat.obj _ _ _ f h) λc m y p i q t=>?_
  show x3 _ _ _ ⟨rfl,beq_eq_false_iff_ne.mpr λz=>cq _ (bg w2 (z▸b.hi a (aY ⟨_,cN f,aY rfl⟩))),⟨p,i,q,t⟩⟩
theorem LH{C:Nat}(I:Inv w g s σ)(r:R w g s.heap v d)(e:look σ d= bh C l):
 ∃x b c n,v= M x/\Inst w g s.heap x b C c n l:=by
 rcases uj e with rfl|⟨n,o,rfl,f,e⟩
 .show z4 r λa b c n e k h z z f=>?_;show x4 a b c n ⟨e,⟨k,h,f⟩⟩
 .show mx v r λa b p=>?_
  induction o<;>first|show D.noConfusion (show bh C l=ay _ from e)|show D.noConfusion (show bh C l=dG _ from e)|skip
  show cR (D.ins.inj e) λi j=>?_;clear e;obtain rfl:=i;obtain rfl:=j
  show ix (I.sat.obj _ _ _ p f) λc m z q h t=>?_
  show x4 _ _ _ _ ⟨rfl,⟨q,h,t⟩⟩
theorem UY(e:look σ d= aq i):d= aq i:=w1 e rfl
theorem UZ(e:look σ d= bl i):d= bl i:=w1 e rfl
theorem U0(e:look σ d= aM i):d= aM i:=w1 e rfl
theorem LI(e:look σ d= cg):d= cg:=w1 e rfl
theorem rW(r:R w g h v d)(e:look σ d= aq i):∃t,v= bL i t:=by rw[UY e]at r;show r
theorem nT(r:R w g h v d)(e:look σ d= bl x):∃t,v= fU x t/\gJ x=U:=by rw[UZ e]at r;show r
theorem RL.f9{b:Array K}(r:RL w g h b.toList a):b.size=a.length:=by simpa using r.length
theorem LJ{a b:Array K}:a++b=(a.toList++b.toList).toArray:=by simp
theorem U1(h:i.natAbs<2^30):Builtin.Int.intBits i<=64:=intBits_le_64 (tB (Int.neg_lt_neg (zB (jd.mpr h) (by decide))) (Int.neg_le_of_neg_le (Int.natAbs_neg i▸Int.le_natAbs))) (oC Int.le_natAbs (zB (jd.mpr h) (by decide)))
theorem U2(e:s.heap.get? a=W (bO c n))(f:s.heap.get? b=W (bO d m))(i:c.size+d.size<=2^20)
(h:Q (ao s.heap.objs.size) {s with heap:=s.heap.push (bO (c++d) 0)}):aj (ar pw w) A (binaryOp cV (ao a) (ao b)) Q E s :=
 PySem.P.add_list e f h (by have:fL=2^24:=rfl;show aC ‹_› (by show br ..))
theorem uk(h:oO d=W i):d= aq i:=by induction d using bJ<;>first|show nn h|show aI aq (L h)
theorem U3(h:Lp d=W i):d= aw i:=by induction d using bJ<;>first|show nn h|show aI aw (L h)
theorem U4(h:nM d=W i):d= ay i:=by induction d using bJ<;>first|show nn h|show aI ay (L h)
theorem LK(h:Lq d=W i):d= bl i:=by induction d using bJ<;>first|show nn h|show aI bl (L h)
@[elab_as_elim] theorem nU{P:K->K->Prop}(c:R w g h a d)(l:R w g h b e)(q:ii (look σ d) (look σ e) f=W r)(k:∀i j t u,f i j=W r->P (bL i t) (bL j u)):P a b:=by
 show bU q λi m q=>bU q λj n q=>?_
 show dM (rW c (uk m)) λt e=>dM (rW l (uk n)) λu o=>?_
 rwa[e,o]
 show k i j t u q
theorem U5(I:Inv w g s σ)(o:R w g s.heap a d)(p:R w g s.heap b e)(h:lM f (look σ d) (look σ e)=aa r)(v:PE w g s σ r Q):
 aj (ar pw w) A (binaryOp f a b) Q E s:=by
 have k:∀{i:Int},aa (aq i)=aa r->Q (bL i s.toks) {s with toks:=s.toks+1}:=λe=>v.here I (by rwa[<-aH e];show .int _ _) _
 induction f with
 |Sub=>
  show nU o p h λi j t u h=>?_
  show PySem.P.sub_int (k h)
 |Mult=>
  show nU o p h λi j t u h=>?_
  show fI h λc h=>?_
  show PySem.P.mul_int (k h) (.of_left (U1 c.1))
 |Mod=>
  show nU o p h λi j t u h=>?_
  show fI h λc h=>?_
  show PyProof.Rows.mod_int (DI c) ?_
  rwa[Int.fmod_eq_emod_of_nonneg _ (DJ c)]
  show k h
 |Pow=>
  show nU o p h λi j t u h=>?_
  show fI h λc h=>?_
  rwa[c.1,c.2]
  show pow_int_small (je _) (je _) (br ..) (k h)
 |BitOr=>
  show nU o p h λi j t u h=>?_
  show or_int (k h)
 |BitAnd=>
  show nU o p h λi j t u h=>?_
  show and_int (k h)
 |Add=>
  generalize L:look σ d=x at h
  induction x using bJ<;>first|show nn h|skip
  .show eG h λj hj h=>dM (rW o L) λt e=>dM (rW p (uk hj)) λu e'=>?_
   rwa[e,e']
   show PySem.P.add_int (k (aI aa h))
  .show bU h λy M h=>fI h λz h=>?_
   rw[<-aH h]at v
   clear k h
   obtain⟨rfl,H⟩:=lR o L
   obtain⟨rfl,J⟩:=lR p (U3 M)
   clear L M
   show mz H λa1 N n P U hz K=>mz J λa2 V m W B Y l=>?_
   clear H J;subst P W
   have Z:=K.f9;have l2:=l.f9
   have z:N.size+V.size<=2^20:=by rwa[Z,l2];show z
   show S5 U B z (λq=>?_) (λq=>?_) ?_
   .rw [ml.mp (Z.symm.trans (JQ.mp q))]at v
    show v.same I p
   .rw [ml.mp (l2.symm.trans (JQ.mp q)),eM]at v
    show v.same I o
   .rwa [LJ]
    show v.rL I (by rwa[cF];show z) (K.append l)
  .show bU h λy M h=>fI h λz h=>?_
   rw[<-aH h]at v
   clear k h
   show mz (jL I o L) λa1 N n q U hz K=>mz (jL I p (U4 M)) λa2 V m q' B Y l=>?_
   rwa[q,q']
   have z:N.size+V.size<=2^20:=by rwa[K.f9,l.f9];show z
   show U2 U B z ?_
   rwa[LJ]
   show v.tW I (by rwa[cF];show z) (K.append l)
 |_=>show nn h
theorem U6(I:Inv w g s σ)(b:R w g s.heap a (aq i))(c:PE w g s σ (aq (-i)) Q):V (Z pw w) A (unaryOp tJ a) Q E s:=by
 show gu a b λt=>?_;show Kw (c.here I (.int _ _) _)
end
end Pq
section
set_option maxHeartbeats 0
namespace Pq
noncomputable def LL:List Nat:=[3,78,79,85,86,90,91,95,96,109,110,116,117,121,122,128,129,154,155,161,162,173,174,197,198,206,207,220,221,225,226,230,231,233,234,251,252,258,259,265,266,272,273,279,280,286,287,291,292,315,316,333,334,340,341,345,346,350,351,362,363,369,370,383,384,390,391,397,398,411,412,418,419,423,424,445,446,454,455,466,467,476,477,482,483,484,494,495,501,502,515,516,522,523,527,528,530,531,548,549,553,554,556,557,574,575,579,580,582,583,600,601,607,608,612,613,615,616,626,627,633,634,638,639,643,644,648,649,653,654,658,659,663,664,668,669]
def KK(P:dg):Frag:=LL.map λi=>(i,oB P i)
theorem U7(y:mD w h):(KK w.params).In h:=by
 show(Frag.in_of (as:=LL) (h:=H1 w.params) (![]) ![]).keeps y
noncomputable def nV:List Nat:=[198,234,316,446,477,531,557,583,616]
theorem Ap(P:dg):(nV.all λC=>plainGet (KK P) C "" &&hasDictIn (KK P) C&&(nD (KK P) (M C) "__setattr__" ==W (W (bM "object.__setattr__")))&&plainOver (KK P) C&&(clsIn (KK P) C).any (·.hasDict)&&makesIn (KK P) C)=U:=![]
theorem LM(P:dg):(nV.all λC=>(bE 20).all λk=>(nD (KK P) (M C) (attr k)==W N)&&(takerIn (KK P) C (attr k)==W N))=U:=![]
def Aq:List (Nat×String×Nat):=[(198, "size",117),(198, "take",122),(198, "require",129),(198, "op",155),(198, "kids",162),(198, "term",174),(234, "steps",226),(234, "run",231),(316, "make",259),(316, "size",266),(316, "find",273),(316, "merge",280),(316, "members",287),(316, "classes",292),(446, "size",341),(446, "node",346),(446, "add",351),(446, "look_at",363),(446, "find",370),(446, "merge",384),(446, "join",391),(446, "settle",398),(446, "classes",412),(446, "members",419),(446, "nodes_of",424),(531, "rules",523),(531, "value",528),(557, "rules",549),(557, "value",554),(583, "rules",575),(583, "value",580),(616, "rules",608),(616, "value",613)]
theorem U8(P:dg):(Aq.all λm=>(nD (KK P) (M m.1) m.2.1==W (W (M m.2.2)))&&isFn (KK P) (M m.2.2)&&(bE 20).all λk=>I (attr k≠a0 m.2.1))=U:=![]
noncomputable def Ar:List (Nat×Nat):=[(198,110),(234,221),(316,252),(446,334),(477,467),(531,516),(616,601)]
theorem U9(P:dg):(Ar.all λm=>(nD (KK P) (M m.1) "__init__" ==W (W (M m.2)))&&(typeIn (KK P) (M m.2)==W (aZ "function")))=U:=![]
theorem LN(P:dg):(nD (KK P) (M 557) "__init__" ==W (W (bM "object.__init__"))&&nD (KK P) (M 583) "__init__" ==W (W (bM "object.__init__")))=U:=![]
noncomputable def Fh:List (String×Nat):=[("is_op",79),("is_variable",86),("variables",91),("parts",96),("program",207),("whole_of",455),("named_value",495),("laws_of",502),("_law_draw",627),("_law_theory",634),("_law_worths",639),("_law_heap",644),("_law_names",649),("_law_stands",654),("_law_tried",659),("_law_filled",664),("law",669),("Bank",198),("Machine",234),("Unions",316),("Heap",446),("Rule",477),("Ring",531),("Truths",557),("Lists",583),("Sets",616),("A",482),("B",483),("C",484)]
theorem Va(P:dg):(Fh.all λm=>nsIn (KK P) lu (a0 m.1)==W (W (M m.2)))=U:=![]
noncomputable def k8:List (String×K):=[("len",bM "len"),("tuple",aZ "tuple"),("sum",bM "sum"),("max",bM "max"),("list",aZ "list"),("dict",aZ "dict"),("int",aZ "int"),("str",aZ "str"),("isinstance",bM "isinstance"),("sorted",bM "sorted"),("set",aZ "set"),("range",aZ "range"),("enumerate",aZ "enumerate")]
theorem Vb(P:dg):(k8.all λm=>(nsIn (KK P) lu (a0 m.1)==W N)&&(bootBuiltins (a0 m.1)==W m.2)&&I (a0 m.1≠a0 "__name__"))=U:=![]
theorem Vc(P:dg):(Fh.all λm=>m.2==482||m.2==483||m.2==484||keepIn (KK P) (M m.2))=U:=![]
theorem Vd(P:dg):(Aq.all λm=>keepIn (KK P) (M m.2.2))=U:=![]
end Pq
end
section
set_option maxHeartbeats 2000000
namespace Pq
section
variable{w:aU}{g g':G}{A:bK}{E:az->aA->Prop}{s:aA}{σ:St}{Q:az->aA->Prop}
theorem Inv.K(I:Inv w g s σ):(KK w.params).In s.heap:=U7 I.base.y
theorem w3(b:Inv w g s σ)(r:R w g s.heap v d)(e:(look σ d).py=W p):(∃f,Reads s.heap v p f)/\p.canLay0=U:=by
 rcases uj (σ:=σ) (d:=d) rfl with h|⟨n,o,rfl,i,h⟩
 .show r.reads (h▸e)
 .clear i;induction o<;>first|show nn ((aI D.py h).symm.trans e)|skip
  show wA v (jL b r h) λa t m j z k=>?_
  show ct p (ej.mp (show gj _ _=W p from(aI D.py h).symm.trans e)) λu l=>?_
  obtain⟨⟨f,q⟩,c⟩:=RL.reads k l
  show⟨⟨_,.list j rfl rfl q⟩,c⟩
theorem Ve(c:A.units+64<cv)(I:Inv w g s σ)(f:R w g s.heap a d)(i:R w g s.heap b e)(h:cG (look σ d) (look σ e)=W r)(j:Q (eh r) s):
 V (Z pw w) A (ly dh a b) Q E s:=by
 obtain⟨p,q,k,l,m,v,rfl⟩:=tV h
 obtain⟨⟨x,n⟩,o⟩:=w3 I f k
 obtain⟨⟨y,t⟩,u⟩:=w3 I i l
 show SeqAt.compareEq_reads n t o u (la c (P (sY ..) (P m (aQ rfl)))) j
theorem Vf(c:A.units+64<cv)(I:Inv w g s σ)(f:R w g s.heap a d)(i:R w g s.heap b e)(h:cG (look σ d) (look σ e)=W r)(j:Q (eh (!r)) s):
 V (Z pw w) A (ly gZ a b) Q E s:=by
 obtain⟨p,q,k,l,m,v,rfl⟩:=tV h
 obtain⟨⟨x,n⟩,o⟩:=w3 I f k
 obtain⟨⟨y,t⟩,u⟩:=w3 I i l
 show SeqAt.compareNe_reads n t o u (la c (P (sY ..) (P m (aQ rfl)))) j
theorem Vg(j:A.units+64<cv)(I:Inv w g s σ)(k:R w g s.heap a d)(l:R w g s.heap b e)(h:cG d (look σ e)=W r):D2 A s a b r:=by
 show nI (tV h) λp q m f n z i=>?_;clear h;obtain rfl:=i
 obtain⟨⟨o,t⟩,u⟩:=k.reads m
 obtain⟨⟨v,x⟩,y⟩:=w3 I l f
 showλc w E Q f=>DZ c w A E s a b p q o v Q t x u y (la j (P (sY ..) (P n (aQ rfl)))) f
theorem As{k:Array az}(U:A.units+65<cv)(I:Inv w g s σ)(o:RL w g s.heap k.toList c)(J:R w g s.heap x f)(h:c.all (λd=>(cG d (look σ f)).isSome)=af):
 ∃e:az->Bool,(∀y,y∈k->D2 A.in1 s y x (e y))/\k.any e=c.any λd=>(cG d (look σ f)).getD Y:=by
 classical
 let e:az->Bool:=λy=>if q:∃d∈c,R w g s.heap y d then(cG q.choose (look σ f)).getD Y else Y
 have u:∀d∈c,d.py.isSome=af:=λd j=>by
  have:=bQ.mp h d j
  obtain⟨b,t⟩:=fF.mp this
  show jW (tV t) λp q K Z=>?_
  simp[K]
 have B:∀y d,d∈c->R w g s.heap y d->e y=(cG d (look σ f)).getD Y:=λy d j r=>by
  have q:∃d∈c,R w g s.heap y d:=⟨d,j,r⟩
  have L:q.choose=d:=R.EC q.choose_spec.2 r (u _ q.choose_spec.1) (u _ j)
  show(if q:∃d∈c,R w g s.heap y d then(cG q.choose (look σ f)).getD Y else Y)=_
  rwa[dif_pos q,L]
 show⟨e,λy M=>?_,?_⟩
 .obtain ⟨i,N,rfl⟩:=JP M
  have z:=o.f9
  show aV (o.get (dn (ey ‹_› ‹_›:i<c.length))) λv P r=>?_
  have ev:k[i]=v:=by
   have:k.toList[i]?=W k[i]:=getElem?_pos ..
   rw[P]at this;show(aH this).symm
  have m:=ey N z
  rwa[B _ _ (te m) (ev▸r)]
  obtain⟨b,t⟩:=fF.mp (bQ.mp h c[i] (te m))
  rwa[t]
  show Vg (A:=A.in1) (by show A.units+1+64<cv;assumption) I (ev▸r) J t
 .rwa [<-DR]
  clear h u
  generalize k.toList=l at o
  have:∀{l:List az}{n:List D},RL w g s.heap l n->(∀d∈n,d∈c)->l.any e=n.any λd=>(cG d (look σ f)).getD Y:=by
   intro l n r H
   induction n generalizing l with
   |nil=>rwa[show l=[]from r];rfl
   |cons y r ih=>
    show my l r λv V a b=>?_
    rwa[Di,Di,B _ _ (H _ a7) a,ih b λd j=>H d (bq _ j)]
  show this o λd j=>j
theorem Au(h:memD x l=W b):l.all (λd=>(cG d x).isSome)=U/\b=l.any λd=>(cG d x).getD Y:=cR (iff h) λa b=>⟨a,(L b).symm⟩
theorem LO(h:(look σ d).bF=U):look σ d=d:=by
 rcases uj (σ:=σ) (d:=d) rfl with k|⟨n,o,z,z,k⟩
 .show k.symm
 .rw [k]at h;clear k;induction o<;>show ff h
section
variable{a b:az}{d e r:D}{l:List D}{k:List (D×D)}{x:Bool}(hu:A.units+101<cv)(I:Inv w g s σ)(ra:R w g s.heap a d)(rb:R w g s.heap b e)
include hu I ra rb
theorem Vh(h:look σ e= aw l)(i:memD (look σ d) l=W x)(j:∀y,y=x->Q (eh y) s):V (Z pw w) A (ly .In a b) Q E s:=by
 obtain⟨c,rfl⟩:=Au i
 obtain⟨z,t,u,n,rfl,m,v,o⟩:=lR rb h
 obtain⟨p,q,f⟩:=As (A:=A) (by lia) I o ra c
 show SeqAt.in_tupleAt p ⟨_,m,rfl,n,rfl⟩ q (j _ f)
theorem Vi(h:look σ e= ay l)(i:memD (look σ d) l=W x)(j:∀y,y=x->Q (eh y) s):V (Z pw w) A (ly .In a b) Q E s:=by
 obtain⟨c,rfl⟩:=Au i
 obtain⟨t,u,n,rfl,m,v,o⟩:=jL I rb h
 obtain⟨p,q,f⟩:=As (A:=A) (by lia) I o ra c
 show SeqAt.in_listAt p ⟨_,m,rfl,n,rfl⟩ q (j _ f)
theorem Vj(h:look σ e= aw l)(i:memD (look σ d) l=W x)(j:∀y,y=x->Q (eh (!y)) s):V (Z pw w) A (ly gY a b) Q E s:=by
 obtain⟨c,rfl⟩:=Au i
 obtain⟨z,t,u,n,rfl,m,v,o⟩:=lR rb h
 obtain⟨p,q,f⟩:=As (A:=A) (by lia) I o ra c
 show SeqAt.notIn_tupleAt p ⟨_,m,rfl,n,rfl⟩ q (j _ f)
theorem Vk(h:look σ e= ay l)(i:memD (look σ d) l=W x)(j:∀y,y=x->Q (eh (!y)) s):V (Z pw w) A (ly gY a b) Q E s:=by
 obtain⟨c,rfl⟩:=Au i
 obtain⟨t,u,n,rfl,m,v,o⟩:=jL I rb h
 obtain⟨p,q,f⟩:=As (A:=A) (by lia) I o ra c
 show SeqAt.notIn_listAt p ⟨_,m,rfl,n,rfl⟩ q (j _ f)
theorem Vl(h:look σ e= dG k)(c:keyOk k (look σ d)=U)(f:∀i,Q (eh (cW k (look σ d)).isSome) {s with toks:=i}):V (Z pw w) A (ly .In a b) Q E s:=by
 obtain⟨o,p,n,rfl,j,m⟩:=qp I rb h
 have q:=LO (wK c).1
 rw[q]at c f
 show SF hu j m ra c (f _)
theorem Vm(h:look σ e= dG k)(c:keyOk k (look σ d)=U)(f:∀i,Q (eh (!(cW k (look σ d)).isSome)) {s with toks:=i}):V (Z pw w) A (ly gY a b) Q E s:=by
 obtain⟨o,p,n,rfl,j,m⟩:=qp I rb h
 have q:=LO (wK c).1
 rw[q]at c f
 show SG hu j m ra c (f _)
@[elab_as_elim] theorem LP{P:K->K->Prop}(c:EK (look σ d) (look σ e)=W x)(j:x=U->P aN aN)(m:x=Y->∀i t,P (bL i t) aN)(n:x=Y->∀f,P (M f) aN):P a b:=by
 generalize o:look σ e=y at c
 induction y using bJ<;>first|show nn c|skip
 rw[LI o]at rb
 obtain rfl:=rb
 generalize h:look σ d=y at c
 induction y using bJ<;>first|show nn c|skip
 .rw [LI h]at ra;obtain rfl:=ra;show j (L c).symm
 .show dM (rW ra h) λt e=>?_;rwa[e];show m (L c).symm _ t
 .show mz (lR ra h).2 λf z z q z z z=>q▸n (L c).symm f
theorem w4(h:hK c (look σ d) (look σ e)=W r)(v:PE w g s σ r Q):V (Z pw w) A (ly c a b) Q E s:=by
 have n:∀{x:Bool},W (aM x)=W r->∀K,Q (eh x) {s with toks:=K}:=λe=>v.here I (by rwa[<-aH e];show .bool _)
 have f:∀{x:Bool},W (aM x)=W r->Q (eh x) s:=λe=>n e _
 induction c with
 |Eq=>clear n v;show bR (ej.mp (show gj _ _=_ from h)) λL z p=>?_;clear h;obtain rfl:=p;show Ve (by lia) I ra rb z (f rfl)
 |NotEq=>clear n v;show bR (ej.mp (show gj _ _=_ from h)) λL z p=>?_;clear h;obtain rfl:=p;show Vf (by lia) I ra rb z (f rfl)
 |Lt=>
  show nU ra rb h λi j t u h=>?_
  show PySem.P.lt_int (f h)
 |LtE=>
  show nU ra rb h λi j t u h=>?_
  show PySem.P.le_int (f h)
 |Gt=>
  show nU ra rb h λi j t u h=>?_
  show PySem.P.gt_int (f h)
 |GtE=>
  show nU ra rb h λi j t u h=>?_
  show PySem.P.ge_int (f h)
 |Is=>
  show eG h λx m h=>?_
  show LP hu I ra rb m (λq=>?_) (λq i t=>?_) λq a=>?_
  .show is_none (f ((aI (λx=>W (aM x)) q.symm).trans (aI W h)))
  .show is_none (f ((aI (λx=>W (aM x)) q.symm).trans (aI W h)))
  .show is_none (f ((aI (λx=>W (aM x)) q.symm).trans (aI W h)))
 |IsNot=>
  show eG h λx m h=>?_
  show LP hu I ra rb m (λq=>?_) (λq i t=>?_) λq a=>?_
  .show Cx (f ((aI (λx=>W (aM !x)) q.symm).trans (aI W h)))
  .show Cx (f ((aI (λx=>W (aM !x)) q.symm).trans (aI W h)))
  .show Cx (f ((aI (λx=>W (aM !x)) q.symm).trans (aI W h)))
 |In=>
  show eG h λx m h=>?_
  have h:=aI W h
  clear n
  generalize o:look σ e=y at m
  induction y using bJ<;>first|show nn m|skip
  .show eG m λy m B=>bR (nT ra (LK m)) λt e l=>bR (nT rb o) λu H l=>?_
   rwa[e,H];show PySem.P.in_str (f (B▸h))
  .show Vh hu I ra rb o m λy e=>e▸f h
  .show Vi hu I ra rb o m λy e=>e▸f h
  .show fI m λJ m=>Vl hu I ra rb o J (aH m▸v.here I (by rwa[<-aH h];show .bool _))
 |NotIn=>
  show eG h λx m h=>?_
  have h:=aI W h
  clear n
  generalize o:look σ e=y at m
  induction y using bJ<;>first|show nn m|skip
  .show eG m λy m B=>bR (nT ra (LK m)) λt e l=>bR (nT rb o) λu H l=>?_
   rwa[e,H];show PySem.P.notIn_str (f (B▸h))
  .show Vj hu I ra rb o m λy e=>e▸f h
  .show Vk hu I ra rb o m λy e=>e▸f h
  .show fI m λJ m=>Vm hu I ra rb o J (aH m▸v.here I (by rwa[<-aH h];show .bool _))
end
theorem Fi{l:List Nat}(h:gJ x=U)(a:∀c∈l,c∈x.cps.toList):gJ ⟨l.toArray⟩=U:=by
 unfold gJ at h |-
 rw[<-Array.all_toList]at h |-
 show bQ.mpr λc b=>bQ.mp h c (a c (by simpa using b))
theorem Vn(U:A.units+101<cv)(I:Inv w g s σ)(p:R w g s.heap a d)(j:R w g s.heap b e)(h:hM (look σ d) e=aa r)(m:PE w g s σ r Q):
 aj (ar pw w) A (jx a b) Q E s:=by
 generalize y:look σ d=x at h
 induction x using bJ<;>first|show nn h|skip
 .rename_i x
  show bU h λi l h=>fI h λk h=>eG h λc z f=>?_
  rw[uk l]at j
  rw[<-f]at m
  show bR (nT p y) λt e B=>dM j λu o=>?_
  rwa[e,o]
  clear h l f
  have H:i.toNat<x.cps.size:=(cD.mp z).1
  have N:i.toNat<2^20:=k.2
  show PySem.P.getItem_str (c:=c) ?_ ?_ (m.here I (.str _ _ (Fi B λZ V=>bI.mp V▸cN z)) _)
  .rwa [Bool.or_eq_false_iff,decide_eq_false_iff_not,decide_eq_false_iff_not];show⟨nE.mpr (tC (by decide) k.1),Int.not_le.mpr (oC (we i) (tB (jd.mpr N) (by decide)))⟩
  .rwa [show seqIndex? i x.length=aa i.toNat from seqIndex_of k.1 (oC (we i) (jd.mpr H))]
   show x.cps[i.toNat]?=_
   rwa[<-jf]
   show z
 .show bU h λi l h=>fI h λk h=>?_
  rw[uk l]at j
  show mz (lR p y).2 λP W n f J K L=>dM j λu o=>aV (L.get h) λv M r=>?_
  rwa[f,o]
  show item_tup J K k (by rwa[jf]at M) (m.same I r)
 .show bU h λi l h=>fI h λk h=>?_
  rw[uk l]at j
  show mz (jL I p y) λP W n q J K L=>dM j λu o=>aV (L.get h) λv M r=>?_
  rwa[q,o]
  show S4 J K k (by rwa[jf]at M) (m.same I r)
 .show fI h λB h=>oL (qp I p y) λP es n q N Y=>?_
  rwa[q]
  show SH U Y j B h λv r=>m.here I r _
theorem Vo{ex:Bool}(c:k<20)(j:∀C l,look σ d= bh C l->C∈nV)(a:Inv w g s σ)(p:R w g s.heap v d)(h:wQ (look σ d) k=W r)(m:PE w g s σ r Q):
 V (Z pw w) A (getAttr v (attr k) ex) Q E s:=by
 generalize f:look σ d=x at h
 induction x using bJ<;>first|show nn h|skip
 rename_i C l
 show RD v (LH a p f) λx t y n o=>?_
 have b:=bQ.mp (Ap w.params) C (j C l f)
 have q:=bQ.mp (bQ.mp (LM w.params) C (j C l f)) k (fM.mpr c)
 have b:=au (au (au (au b).1).1).1
 show aV (o.ra.get c h) λv z i=>?_
 show SX a.K o c (au b.1).1 (au b.1).2 (bX.mp (au q).1) rfl h (λu e=>by clear m h;subst e;show i) λv r=>m.here a r _
end
end Pq
end
namespace Pq
section
variable{w:aU}{g g':G}{A:bK}{E:az->aA->Prop}{s:aA}{σ:St}{Q:az->aA->Prop}
theorem Av(t:∀o i,∃k,Cy a Y o i=operate k (jx o i))
(h:aj (ar pw w) A (bw b c) (λo f=>aj (ar pw w) A (bw a c) (λi e=>∃T q,mc (aZ T) "__getitem__" =bx (aa (bM q))/\e.TypeIs o T/\aj (ar pw w) A (jx o i) Q E e) E f) E s):
 aj (ar pw w) A (bw (rC b a d) c) Q E s:=by
 show ai (ed h (λo f l=>ai (cU (ed l (λi e m=>ai (gU ?_)) λg g x=>x))) λg g x=>x)
 show eX (m) λT q u v y=>?_
 obtain⟨k,z⟩:=t o i
 show ai ?_
 show ai (pF v u ?_)
 have n:aj (ar pw w) A (Cy a ah o i) (λr j=>aj (ar pw w) A (letTemporaryGo b o r>>=λg=>bx r) Q E j) E e:=by
  rwa[z]
  show Cz (ed y (λr j p=>ai (IC (aD p))) λg g x=>x)
 first
  |show aD (ai n)
  |show wpAny_bind (wpAny_pure (wpAny_bind n))
theorem LQ{lo step:Int}(q:s.heap.get? t=W (cP a n))(h:∃e,s.heap.get? b=W e/\e.cls= aZ "slice")
 (r:∀{u:K->H->Prop}{p:Int×Int×Nat->H->Prop},p (lo,step,k) s->V (Z pw w) A.in1 (Kk (M b) (bx (a.size:Int))) p u s) (v:k<=a.size) (x:a.size<=2^20)
 (y:(lo==0&&step==1&&k==a.size)=U->Q (M t) s)
 (f:Q (M s.heap.objs.size) {s with heap:=s.heap.push (cP ((bE k).filterMap λ(j:Nat)=>a[(lo+(j:Int)*step).toNat]?).toArray 0)}):
 V (Z pw w) A (jx (M t) (M b)) Q E s:=by
 have d:IsTup s.heap t a:=⟨_,q,rfl,n,rfl⟩
 show aV (h) λe i l=>?_
 have c:sizeOk (.seq ((bE k).filterMap λ(j:Nat)=>a[(lo+(j:Int)*step).toNat]?).toArray):=by
  show((bE k).filterMap _).toArray.size<=fL
  show P (Jc ..) (P (bC gI) (P v (P x (aQ rfl))))
 unfold jx
 try with_reducible show cU ?_
 first|show J (aD ?_)|skip
 show J (yp d.typeIs (by rfl) ?_)
 show J (ma (name:=a0 "__getitem__") d.typeIs JI
  (gE JI d.typeIs PyProof.Rows.entry_tuple_getitem ?_ (PyProof.Rows.args_tuple_getitem _ _)))
 show V _ _ (zN (M t)>>=_) _ _ s
 show J (tupleItemsOf_ d ?_)
 show J (nf (⟨e,i,l⟩:s.TypeIs (M b) "slice") ?_)
 show J (r ?_)
 show V _ _ (if(lo==0&&step==1&&k==a.size)=U then _ else _) _ _ s
 by_cases o:(lo==0&&step==1&&k==a.size)=U
 .rwa [aJ o]
  show J (m:=Builtin.Tuple.tupleIsExact (M t)) ?_
  show J (nf d.typeIs (aD ?_))
  show J (iJ (aD ⟨_,rfl,aD (y o)⟩))
 .rwa [aL o]
  first
   |show J (m:=Kr _) (ng (aD ⟨_,rfl,aD f⟩) c)
   |show wpAny_bind (m:=Builtin.Tuple.tupleExact _) (wpAny_newObj_type (wpAny_bind (wpAny_pure (wpAny_pure ⟨_,rfl,wpAny_pure f⟩))) c)
   |show wpAny_bind (wpAny_bind (m:=Builtin.Tuple.tupleExact _) (wpAny_newObj_type (wpAny_pure (wpAny_pure ⟨_,rfl,wpAny_pure f⟩)) c))
   |show wpAny_bind (wpAny_bind (m:=Builtin.Tuple.tupleExact _) (wpAny_newObj_type (wpAny_pure ⟨_,rfl,wpAny_pure f⟩) c))
theorem LR{lo q l:Option Int}{n:Nat}(u:s.heap.IsSliceOf d a b c)(y:sS a lo)(z:sS b q)(B:sS c l)
(H:(l.getD 1==0)=ah)
(h:f ((zM lo q (l.getD 1) n).1,l.getD 1,wj (zM lo q (l.getD 1) n).1 (zM lo q (l.getD 1) n).2 (l.getD 1)) s):
 aj (ar pw w) A (Kk (ao d) (bx (n:Int))) f e s:=by
 show eA (id u) λK m I o=>?_
 have j:∀{v:az}{k:Option Int}{p:Option Int->aA->Prop},sS v k->p k s->aj (ar pw w) A (Builtin.Slice.slicePartIndex v) p e s:=λJ r=>by
  cases J with
  |none=>show slicePart_none r
  |int i t=>show slicePart_int r
 show ai (ai (jy m o (x:=a) rfl (ai (jy m o (x:=b) rfl (ai (jy m o (x:=c) rfl (aD ?_)))))))
 show ai (j B ?_)
 show aj _ _ (if(l.getD 1==0)=af then _ else _) _ _ s
 rwa[aL (by rwa[H];show fe)]
 show ai (j y (ai (j z (ai (aD (aD h))))))
theorem Vp(a:Array K)(k:Nat):((bE (min k a.size)).filterMap λ(j:Nat)=>a[((0:Int)+(j:Int)*1).toNat]?)=a.toList.take k:=by
 have e:(λ(j:Nat)=>a[((0:Int)+(j:Int)*1).toNat]?)=λj=>a[0+j]? :=by
  funext j
  have:((0:Int)+(j:Int)*1).toNat=0+j:=iK _
  rwa[this]
 rwa[e]
 have:=pick_run a 0 (min k a.size)
 rw[Dj]at this
 rwa[this,tf,<-Jd,vK (l:=a.toList) (i:=a.size) (bG _)]
theorem LS{f g:c->Option d}:∀{l:List c},(∀a∈l,f a=g a)->l.filterMap f=l.filterMap g
 |[],_=>rfl
 |a::r,h=>by
  rwa[nz,nz,h a (a7 ..),LS (l:=r) λb e=>h b (bq _ ‹_›)]
theorem Vq{j n:Nat}(h:j<n):((n:Int)-1+(j:Int)*(-1)).toNat=n-1-j:=by
 obtain⟨m,rfl⟩:=CX h
 show((j:Int)+m+1-1+(j:Int)*(-1)).toNat=_
 rwa[DK,Int.mul_neg,Int.mul_one,Int.add_comm (j:Int) m,Int.add_neg_cancel_right,Nat.add_sub_cancel,CY]
 rfl
theorem Vr(b:Array K):((bE b.size).filterMap λ(j:Nat)=>b[((b.size:Int)-1+(j:Int)*(-1)).toNat]?)=b.toList.reverse:=by
 have:∀l:List Nat,(∀j∈l,j<b.size)->(l.filterMap λ(j:Nat)=>b[((b.size:Int)-1+(j:Int)*(-1)).toNat]?)=l.filterMap λj=>b.toList.reverse[j]? :=by
  intro l c
  show LS λj d=>?_
  have:=c j d
  rwa[List.getElem?_reverse (by assumption)]
  have e:((b.size:Int)-1+(j:Int)*(-1)).toNat=b.toList.length-1-j:=Vq this
  rwa[e];show y8
 rwa[this _ (by simp)]
 have q:∀(l:List K),(bE l.length).filterMap (λj=>l[j]?)=l:=by
  intro l
  induction l with
  |nil=>rfl
  |cons a r f=>
   rwa[fC,List.range_succ_eq_map,nz]
   simp only[List.getElem?_cons_zero,Dj]
   congr 1
 have:=q b.toList.reverse
 simpa using this
theorem LU(k n:Nat):((min k n:Nat):Int)=min (k:Int) (n:Int):=by
 by_cases h:k<=n
 .rwa [yT h,Int.min_eq_left (pY.mpr h)]
 .rwa [IL (yU h),Int.min_eq_right (pY.mpr (yU h))]
theorem LV(k n:Nat):(if(1:Int)>0 then hA 0 (min (if(k:Int)<0 then(k:Int)+n else k) (n:Int))else hA (-1) (min (if(k:Int)<0 then(k:Int)+n else k) ((n:Int)-1)))=((min k n:Nat):Int):=by
 rwa[aJ (aQ rfl),aL (nE.mpr (je k)),<-LU]
 show Int.max_eq_right (je _)
theorem LW(a b:Nat):yr (a:Int) (b:Int) 1=(bE (b-a)).map (a+ ·):=by
 have c:(if(1:Int)>0 then(if(a:Int)<b then((b:Int)-a+1-1) / 1 else 0)else(if(a:Int)>b then((a:Int)-b-1-1) / (-1)else 0)).toNat=b-a:=by
  rwa[aJ (aQ rfl)]
  by_cases h:(a:Int)<b
  .rwa [aJ h,DL,DK,Int.toNat_sub]
  .rwa [aL h];show(Nat.sub_eq_zero_of_le (pY.mp (nE.mp h))).symm
 show(bE _).map _=_
 rwa[c]
 show fN λj z=>by show((a:Int)+1*(j:Int)).toNat=a+j;rwa[Int.one_mul];rfl
theorem Vs(b:Array K)(k:Nat):slicePick b (W (k:Int)) N N=(b.toList.drop k).toArray:=by
 show iP (aI (λa=>((yr a (b.size:Int) 1).filterMap (b[·]?)).toArray) (LV k b.size)) ?_
 rwa[LW,pick_run]
 by_cases h:k<=b.size
 .rwa [yT h,vK (bC vL)]
 .rwa [IL (yU h),jC,List.take_zero,List.drop_of_length_le (yU h)]
theorem Vt(b:Array K)(k:Nat):slicePick b N (W (k:Int)) N=(b.toList.take k).toArray:=by
 show iP (aI (λa=>((yr 0 a 1).filterMap (b[·]?)).toArray) (LV k b.size)) ?_
 rwa[show yr 0 ((min k b.size:Nat):Int) 1=_ from LW 0 _,pick_run,tf,Nat.sub_zero,<-Jd,vK (l:=b.toList) (i:=b.size) (bG _)]
noncomputable abbrev e7(l u a:K):cC:={cls:= aZ "slice",data:= dU #[l,u,a]}
theorem PE.qr(h:PE w g s σ d Q):PE w g {s with heap:=s.heap.push o} σ d Q:=h.step .push
theorem Inv.Fj(I:Inv w g s σ)(o:cC):Inv w g {s with heap:=s.heap.push o} σ:=I.bz .push (I.push o)
theorem R.push(r:R w g h v d)(o:cC):R w g (h.push o) v d:=r.ext (Ext.push (fr:=[]) o) (λz h=>aF h bc)
theorem Vu(h:gJ x=U)(l u:Option Int):gJ (tI x l u)=U:=by
 unfold tI
 split
 .show h
 .show Fi h λc a=>?_
  show aV (y9.mp a) λi z b=>?_
  show cN (by simpa using b)
theorem str_slice{x:bu}{t:Tok}{e:aR}{l u:Option (Int×Tok)}(I:Inv w g s σ)(f:s.heap.IsSlice e l u N)(h:gJ x=U)(i:x.cps.size<2^20)(b:PE w g s σ (bl (tI x (l.map (·.1)) (u.map (·.1)))) Q):
 V (Z pw w) A (jx (fU x t) (M e)) Q E s:=by
 show wpAny_getItem_str_slice f rfl ?_
 have d:=Txt.slice_le x (l.map (·.1)) (u.map (·.1))
 have a:=Vu h (l.map (·.1)) (u.map (·.1))
 unfold sliceMade
 unfold tI at d b a
 unfold slicePicked
 dsimp only[Option.map_none,Iq]
 split
 .rename_i c
  rw[aJ c]at b a
  show b.same I (.str _ _ a)
 .rename_i c
  rw[aL c]at b a d
  show⟨by have:fL=2^24:=rfl;simp only[Str.length]at d |-;lia,b.here I (.str _ _ a) _⟩
theorem Vv(I:Inv w g s σ)(m:R w g s.heap a d)(q:R w g s.heap b e)(h:rO d e=W r)(j:PE w g s σ r Q):
 V (Z pw w) A (jx a (M s.heap.objs.size)) Q E {s with heap:=s.heap.push (e7 b aN aN)}:=by
 have v:=I.Fj (e7 b aN aN)
 have f:=m.push (e7 b aN aN)
 have x:(s.heap.push (e7 b aN aN)).IsSliceOf s.heap.objs.size b aN aN:=.new ..
 induction d using bJ<;>first|show nn h|skip
 .induction e using bJ<;>first|show nn h|skip
  obtain⟨c,h⟩:=iff h
  rw[<-aH h]at j
  clear x;obtain⟨t,rfl⟩:=q
  clear f;obtain⟨u,rfl,L⟩:=m
  show str_slice (s:={s with heap:=s.heap.push (e7 (bL _ t) aN aN)}) (l:=W (_,t)) (u:=N) v ⟨_,dQ _ rfl,rfl,rfl⟩ L c j.qr
 .induction e using bJ<;>first|show nn h|skip
  rename_i l i
  obtain⟨c,h⟩:=iff h
  rw[<-aH h]at j
  obtain⟨t,rfl⟩:=q
  clear m;obtain⟨a,J,n,rfl,y,_,z,p⟩:=f
  have B:=p.f9
  have H:=pZ (tC (aQ rfl:(0:Int)<=1) c.1)
  show S6 (s:={s with heap:=s.heap.push (e7 (bL i t) aN aN)}) (k:=i.toNat) y (by rwa[H];show x) ((Int.le_toNat (tC (aQ rfl:(0:Int)<=1) c.1)).mpr c.1) (P c.2 (bC B.symm)) z ?_
  show(j.qr (o:=e7 (bL i t) aN aN)).rL v (by rwa[vL,jT];show P (oj ..) ‹_›) (p.drop _)
 .induction e using bJ<;>first|show nn h|skip
  rename_i l i
  obtain⟨c,h⟩:=iff h
  rw[<-aH h]at j
  obtain⟨t,rfl⟩:=q
  clear m;obtain⟨a,J,n,rfl,y,_,z,p⟩:=f
  have H:=pZ (tC (aQ rfl:(0:Int)<=1) c)
  show Lm (s:={s with heap:=s.heap.push (e7 (bL i t) aN aN)}) y x (.int _ _) rI z ?_
  have K:=Vs J i.toNat
  rw[H]at K
  rwa[K]
  show(j.qr (o:=e7 (bL i t) aN aN)).tW v (by rwa[vL,jT];show P (oj ..) ‹_›) (p.drop _)
theorem Vw{n:Nat}(h:0<=i):zM N (W i) 1 (n:Int)=(0,((min i.toNat n:Nat):Int)):=by
 show((if(1:Int)<0 then _ else _),(if i<0 then _ else min i (if(1:Int)<0 then _ else _)))=_
 rwa[aL (aQ rfl),aL (aQ rfl),aL (nE.mpr h),aL (aQ rfl),LU,pZ h]
theorem Vx{k:Nat}:wj 0 (k:Int) 1=k:=by
 unfold wj
 rwa[aJ (p0 _),DL]
 by_cases h:(0:Int)<k
 .rwa [aJ h,Int.sub_zero,zD];rfl
 .rwa [aL h];show(Nat.eq_zero_of_le_zero ((pY (n:=0)).mp (nE.mp h))).symm
theorem Vy(I:Inv w g s σ)(q:R w g s.heap a d)(y:R w g s.heap b e)(h:rP d e=W r)(c:PE w g s σ r Q):
 V (Z pw w) A (jx a (M s.heap.objs.size)) Q E {s with heap:=s.heap.push (e7 aN b aN)}:=by
 have v:=I.Fj (e7 aN b aN)
 have f:=q.push (e7 aN b aN)
 have z:(s.heap.push (e7 aN b aN)).IsSliceOf s.heap.objs.size aN b aN:=.new ..
 induction d using bJ<;>first|show nn h|skip
 .induction e using bJ<;>first|show nn h|skip
  obtain⟨m,h⟩:=iff h
  rw[<-aH h]at c
  clear z;obtain⟨t,rfl⟩:=y
  clear f;obtain⟨u,rfl,K⟩:=q
  show str_slice (s:={s with heap:=s.heap.push (e7 aN (bL _ t) aN)}) (l:=N) (u:=W (_,t)) v ⟨_,dQ _ rfl,rfl,rfl⟩ K m c.qr
 .induction e using bJ<;>first|show nn h|skip
  rename_i l i
  obtain⟨m,h⟩:=iff h
  rw[<-aH h]at c
  obtain⟨t,rfl⟩:=y
  clear q;obtain⟨a,B,n,rfl,x,hm,j,p⟩:=f
  show LQ (s:={s with heap:=s.heap.push (e7 aN (bL i t) aN)}) (lo:=0) (step:=1) (k:=min i.toNat B.size) x ⟨_,dQ _ rfl,rfl⟩ (λhq=>?_) (vD ..) j (λH=>?_) ?_
  .show LR (s:={s with heap:=s.heap.push (e7 aN (bL i t) aN)}) z rI (.int _ _) rI rfl ?_
   rwa[Iq,Vw m]
   rwa[Vx];assumption
  .have H:=bX.mp (au H).2
   rw[vK (show l.length<=i.toNat by rwa[<-p.f9,<-H];show sY ..)]at c
   show c.qr.same v (.tup x hm j p)
  .rwa [Vp]
   show(c.qr (o:=e7 aN (bL i t) aN)).rL v (by rwa[vM,jT];show P (vD ..) j) (p.take _)
 .induction e using bJ<;>first|show nn h|skip
  rename_i l i
  obtain⟨m,h⟩:=iff h
  rw[<-aH h]at c
  obtain⟨t,rfl⟩:=y
  clear q;obtain⟨a,B,n,rfl,x,_,j,p⟩:=f
  have L:=pZ m
  show Lm (s:={s with heap:=s.heap.push (e7 aN (bL i t) aN)}) x z rI (.int _ _) j ?_
  have J:=Vt B i.toNat
  rw[L]at J
  rwa[J]
  show(c.qr (o:=e7 aN (bL i t) aN)).tW v (by rwa[vM,jT];show P (vD ..) j) (p.take _)
theorem Vz(I:Inv w g s σ)(e:R w g s.heap a d)(h:Ai d=W r)(f:PE w g s σ r Q):
 V (Z pw w) A (jx a (M s.heap.objs.size)) Q E {s with heap:=s.heap.push (e7 aN aN (bL (-1) t))}:=by
 have j:=I.Fj (e7 aN aN (bL (-1) t))
 have c:=e.push (e7 aN aN (bL (-1) t))
 have m:(s.heap.push (e7 aN aN (bL (-1) t))).IsSliceOf s.heap.objs.size aN aN (bL (-1) t):=.new ..
 induction d using bJ<;>first|show nn h|skip
 rename_i l
 rw[<-L h]at f
 clear e;show tQ a c λa b n p y i q=>?_
 show LQ (s:={s with heap:=s.heap.push (e7 aN aN (bL (-1) t))}) (lo:=(b.size:Int)-1) (step:= -1) (k:=b.size) p ⟨_,dQ _ rfl,rfl⟩ (λu=>?_) (bG _) i (λv=>?_) ?_
 .show LR (s:={s with heap:=s.heap.push (e7 aN aN (bL (-1) t))}) m rI rI (.int _ _) rfl ?_
  have x:wj ((b.size:Int)-1) (-1) (-1)=b.size:=by
   unfold wj
   rwa[aL (aQ rfl),show(-(-1:Int))=1 from rfl,DL]
   by_cases h:(-1:Int)<(b.size:Int)-1
   .rwa [aJ h,Int.sub_neg,zD,zD];rfl
   .rwa [aL h]
    have h:=Int.add_le_add_right (nE.mp h) 1
    rw[zD]at h
    show(Nat.eq_zero_of_le_zero ((pY (n:=0)).mp h)).symm
  rwa[x];show u
 .show ff (show Y=U from(au (au v).1).2)
 .rwa [Vr]
  show(f.qr (o:=e7 aN aN (bL (-1) t))).rL j (by rwa[pO,jT];show i) q.reverse
end
noncomputable abbrev NS:=List (bu×gF)
noncomputable abbrev aX:=yn
noncomputable def w5 :List b->Option b
 |[a]=>W a
 |_=>N
noncomputable def rX :List c->Option (c×c)
 |[a,b]=>W (a,b)
 |_=>N
theorem Aw(h:w5 l=W r):l=[r]:=by
 induction l using bH with
 |nil=>show nn h
 |cons a l=>induction l using bH with
  |nil=>show aI (λx=>[x]) (L h)
  |cons=>show nn h
theorem uo(h:rX l=W r):l=[r.1,r.2]:=by
 induction l using bH with
 |nil=>show nn h
 |cons a l=>induction l using bH with
  |nil=>show nn h
  |cons b l=>induction l using bH with
   |nil=>show aI (λx=>[x.1,x.2]) (L h)
   |cons=>show nn h
theorem gc[Decidable c]{f:c->Option a}{r:a}(h:(if h:c then f h else N)=W r):∃h,f h=W r:=by
 by_cases k:c
 .rw [dif_pos k]at h;show⟨k,h⟩
 .rw [dif_neg k]at h;show nn h
noncomputable def jM(e:aX):Option (bu×d6):=if h:e.ctorIdx=23 then zO (motive_1:=λz=>_) e h λa b=>W (a,b)else N
theorem kJ{e r}(h:jM e=W r):e= fE r.1 r.2 :=
 (gc h).elim λc h=>
 zO (motive_1:=λe=>∀c,zO (motive_1:=λz=>_) e c (λa b=>W (a,b))=W r->e= fE r.1 r.2) e c (λa b z h=>L h▸rfl) c h
noncomputable def qs(e:aX):Option (Const×Nat×d6):=if h:e.ctorIdx=19 then D3 (motive_1:=λz=>_) e h λa b c=>W (a,b,c)else N
theorem w6{e r}(h:qs e=W r):e= mv r.1 r.2.1 r.2.2 :=
 (gc h).elim λc h=>
 D3 (motive_1:=λe=>∀c,D3 (motive_1:=λz=>_) e c (λa b c=>W (a,b,c))=W r->e= mv r.1 r.2.1 r.2.2) e c (λa b c z h=>L h▸rfl) c h
noncomputable def Ax(e:aX):Option (aX×bu×d6):=if h:e.ctorIdx=20 then D4 (motive_1:=λz=>_) e h λa b c=>W (a,b,c)else N
theorem Ay{e r}(h:Ax e=W r):e= rE r.1 r.2.1 r.2.2 :=
 (gc h).elim λc h=>
 D4 (motive_1:=λe=>∀c,D4 (motive_1:=λz=>_) e c (λa b c=>W (a,b,c))=W r->e= rE r.1 r.2.1 r.2.2) e c (λa b c z h=>L h▸rfl) c h
noncomputable def uq(e:aX):Option (aX×aX×d6):=if h:e.ctorIdx=21 then D5 (motive_1:=λz=>_) e h λa b c=>W (a,b,c)else N
theorem uu{e r}(h:uq e=W r):e= rC r.1 r.2.1 r.2.2 :=
 (gc h).elim λc h=>
 D5 (motive_1:=λe=>∀c,D5 (motive_1:=λz=>_) e c (λa b c=>W (a,b,c))=W r->e= rC r.1 r.2.1 r.2.2) e c (λa b c z h=>L h▸rfl) c h
noncomputable def Az(e:aX):Option (Option aX×Option aX×Option aX×d6):=if h:e.ctorIdx=26 then D6 (motive_1:=λz=>_) e h λa b c d=>W (a,b,c,d)else N
theorem Fl{e r}(h:Az e=W r):e= wb r.1 r.2.1 r.2.2.1 r.2.2.2 :=
 (gc h).elim λc h=>
 D6 (motive_1:=λe=>∀c,D6 (motive_1:=λz=>_) e c (λa b c d=>W (a,b,c,d))=W r->e= wb r.1 r.2.1 r.2.2.1 r.2.2.2) e c (λa b c d z h=>L h▸rfl) c h
noncomputable def LX(e:aX):Option (aX×Operator×aX×d6):=if h:e.ctorIdx=2 then D7 (motive_1:=λz=>_) e h λa b c d=>W (a,b,c,d)else N
theorem LY{e r}(h:LX e=W r):e= .BinOp r.1 r.2.1 r.2.2.1 r.2.2.2 :=
 (gc h).elim λc h=>
 D7 (motive_1:=λe=>∀c,D7 (motive_1:=λz=>_) e c (λa b c d=>W (a,b,c,d))=W r->e= .BinOp r.1 r.2.1 r.2.2.1 r.2.2.2) e c (λa b c d z h=>L h▸rfl) c h
noncomputable def AA(e:aX):Option (UnaryOp×aX×d6):=if h:e.ctorIdx=3 then D8 (motive_1:=λz=>_) e h λa b c=>W (a,b,c)else N
theorem AB{e r}(h:AA e=W r):e= rF r.1 r.2.1 r.2.2 :=
 (gc h).elim λc h=>
 D8 (motive_1:=λe=>∀c,D8 (motive_1:=λz=>_) e c (λa b c=>W (a,b,c))=W r->e= rF r.1 r.2.1 r.2.2) e c (λa b c z h=>L h▸rfl) c h
noncomputable def Fo(e:aX):Option (aX×List m9×List aX×d6):=if h:e.ctorIdx=15 then D9 (motive_1:=λz=>_) e h λa b c d=>W (a,b,c,d)else N
theorem Fq{e r}(h:Fo e=W r):e= zv r.1 r.2.1 r.2.2.1 r.2.2.2 :=
 (gc h).elim λc h=>
 D9 (motive_1:=λe=>∀c,D9 (motive_1:=λz=>_) e c (λa b c d=>W (a,b,c,d))=W r->e= zv r.1 r.2.1 r.2.2.1 r.2.2.2) e c (λa b c d z h=>L h▸rfl) c h
noncomputable def vBool(e:aX):Option (BoolOp×List aX×d6):=if h:e.ctorIdx=0 then Ea (motive_1:=λz=>_) e h λa b c=>W (a,b,c)else N
theorem Fs{e r}(h:vBool e=W r):e= zw r.1 r.2.1 r.2.2 :=
 (gc h).elim λc h=>
 Ea (motive_1:=λe=>∀c,Ea (motive_1:=λz=>_) e c (λa b c=>W (a,b,c))=W r->e= zw r.1 r.2.1 r.2.2) e c (λa b c z h=>L h▸rfl) c h
noncomputable def LZ(e:aX):Option (aX×aX×aX×d6):=if h:e.ctorIdx=5 then Eb (motive_1:=λz=>_) e h λa b c d=>W (a,b,c,d)else N
theorem L5{e r}(h:LZ e=W r):e= .IfExp r.1 r.2.1 r.2.2.1 r.2.2.2 :=
 (gc h).elim λc h=>
 Eb (motive_1:=λe=>∀c,Eb (motive_1:=λz=>_) e c (λa b c d=>W (a,b,c,d))=W r->e= .IfExp r.1 r.2.1 r.2.2.1 r.2.2.2) e c (λa b c d z h=>L h▸rfl) c h
noncomputable def rY(e:aX):Option (List aX×Nat×d6):=if h:e.ctorIdx=25 then tK (motive_1:=λz=>_) e h λa b c=>W (a,b,c)else N
theorem w7{e r}(h:rY e=W r):e= pU r.1 r.2.1 r.2.2 :=
 (gc h).elim λc h=>
 tK (motive_1:=λe=>∀c,tK (motive_1:=λz=>_) e c (λa b c=>W (a,b,c))=W r->e= pU r.1 r.2.1 r.2.2) e c (λa b c z h=>L h▸rfl) c h
noncomputable def L6(e:aX):Option (List aX×d6):=if h:e.ctorIdx=24 then Ec (motive_1:=λz=>_) e h λa b=>W (a,b)else N
theorem L7{e r}(h:L6 e=W r):e= .List r.1 r.2 :=
 (gc h).elim λc h=>
 Ec (motive_1:=λe=>∀c,Ec (motive_1:=λz=>_) e c (λa b=>W (a,b))=W r->e= .List r.1 r.2) e c (λa b z h=>L h▸rfl) c h
noncomputable def L8(e:aX):Option (List (Option aX)×List aX×d6):=if h:e.ctorIdx=6 then Ed (motive_1:=λz=>_) e h λa b c=>W (a,b,c)else N
theorem L9{e r}(h:L8 e=W r):e= .Dict r.1 r.2.1 r.2.2 :=
 (gc h).elim λc h=>
 Ed (motive_1:=λe=>∀c,Ed (motive_1:=λz=>_) e c (λa b c=>W (a,b,c))=W r->e= .Dict r.1 r.2.1 r.2.2) e c (λa b c z h=>L h▸rfl) c h
noncomputable def Ma(e:aX):Option (List aX×d6):=if h:e.ctorIdx=18 then Ee (motive_1:=λz=>_) e h λa b=>W (a,b)else N
theorem Mb{e r}(h:Ma e=W r):e= DH r.1 r.2 :=
 (gc h).elim λc h=>
 Ee (motive_1:=λe=>∀c,Ee (motive_1:=λz=>_) e c (λa b=>W (a,b))=W r->e= DH r.1 r.2) e c (λa b z h=>L h▸rfl) c h
noncomputable def Mc(e:aX):Option (aX×Int×Option aX×d6):=if h:e.ctorIdx=17 then Ef (motive_1:=λz=>_) e h λa b c d=>W (a,b,c,d)else N
theorem VA{e r}(h:Mc e=W r):e= zx r.1 r.2.1 r.2.2.1 r.2.2.2 :=
 (gc h).elim λc h=>
 Ef (motive_1:=λe=>∀c,Ef (motive_1:=λz=>_) e c (λa b c d=>W (a,b,c,d))=W r->e= zx r.1 r.2.1 r.2.2.1 r.2.2.2) e c (λa b c d z h=>L h▸rfl) c h
noncomputable def AD(e:aX):Option (aX×List vl×ia×d6):=if h:e.ctorIdx=8 then zP (motive_1:=λz=>_) e h λa b c d=>W (a,b,c,d)else N
theorem AE{e r}(h:AD e=W r):e= fV r.1 r.2.1 r.2.2.1 r.2.2.2 :=
 (gc h).elim λc h=>
 zP (motive_1:=λe=>∀c,zP (motive_1:=λz=>_) e c (λa b c d=>W (a,b,c,d))=W r->e= fV r.1 r.2.1 r.2.2.1 r.2.2.2) e c (λa b c d z h=>L h▸rfl) c h
noncomputable def rZ(e:aX):Option (aX×List aX×List Keyword×d6):=if h:e.ctorIdx=16 then Eg (motive_1:=λz=>_) e h λa b c d=>W (a,b,c,d)else N
theorem uv{e r}(h:rZ e=W r):e= jc r.1 r.2.1 r.2.2.1 r.2.2.2 :=
 (gc h).elim λc h=>
 Eg (motive_1:=λe=>∀c,Eg (motive_1:=λz=>_) e c (λa b c d=>W (a,b,c,d))=W r->e= jc r.1 r.2.1 r.2.2.1 r.2.2.2) e c (λa b c d z h=>L h▸rfl) c h
noncomputable def Md(e:dj):Option (List aX×aX×d6):=if h:e.ctorIdx=5 then Eh (motive_2:=λz=>_) e h λa b c=>W (a,b,c)else N
theorem VB{e r}(h:Md e=W r):e= .Assign r.1 r.2.1 r.2.2 :=
 (gc h).elim λc h=>
 Eh (motive_2:=λe=>∀c,Eh (motive_2:=λz=>_) e c (λa b c=>W (a,b,c))=W r->e= .Assign r.1 r.2.1 r.2.2) e c (λa b c z h=>L h▸rfl) c h
noncomputable def Me(e:dj):Option (aX×d6):=if h:e.ctorIdx=24 then Ei (motive_2:=λz=>_) e h λa b=>W (a,b)else N
theorem VC{e r}(h:Me e=W r):e= .Expr r.1 r.2 :=
 (gc h).elim λc h=>
 Ei (motive_2:=λe=>∀c,Ei (motive_2:=λz=>_) e c (λa b=>W (a,b))=W r->e= .Expr r.1 r.2) e c (λa b z h=>L h▸rfl) c h
noncomputable def Mf(e:dj):Option (Option aX×d6):=if h:e.ctorIdx=3 then Ej (motive_2:=λz=>_) e h λa b=>W (a,b)else N
theorem VD{e r}(h:Mf e=W r):e= .Return r.1 r.2 :=
 (gc h).elim λc h=>
 Ej (motive_2:=λe=>∀c,Ej (motive_2:=λz=>_) e c (λa b=>W (a,b))=W r->e= .Return r.1 r.2) e c (λa b z h=>L h▸rfl) c h
noncomputable def Mh(e:dj):Option (aX×List dj×List dj×d6):=if h:e.ctorIdx=12 then Ek (motive_2:=λz=>_) e h λa b c d=>W (a,b,c,d)else N
theorem VE{e r}(h:Mh e=W r):e= .If r.1 r.2.1 r.2.2.1 r.2.2.2 :=
 (gc h).elim λc h=>
 Ek (motive_2:=λe=>∀c,Ek (motive_2:=λz=>_) e c (λa b c d=>W (a,b,c,d))=W r->e= .If r.1 r.2.1 r.2.2.1 r.2.2.2) e c (λa b c d z h=>L h▸rfl) c h
noncomputable def Mi(e:dj):Option (aX×List dj×List dj×d6):=if h:e.ctorIdx=11 then El (motive_2:=λz=>_) e h λa b c d=>W (a,b,c,d)else N
theorem VF{e r}(h:Mi e=W r):e= .While r.1 r.2.1 r.2.2.1 r.2.2.2 :=
 (gc h).elim λc h=>
 El (motive_2:=λe=>∀c,El (motive_2:=λz=>_) e c (λa b c d=>W (a,b,c,d))=W r->e= .While r.1 r.2.1 r.2.2.1 r.2.2.2) e c (λa b c d z h=>L h▸rfl) c h
noncomputable def Mj(e:dj):Option (aX×aX×List dj×List dj×d6):=if h:e.ctorIdx=9 then Em (motive_2:=λz=>_) e h λa b c d e=>W (a,b,c,d,e)else N
theorem VG{e r}(h:Mj e=W r):e= .For r.1 r.2.1 r.2.2.1 r.2.2.2.1 r.2.2.2.2 :=
 (gc h).elim λc h=>
 Em (motive_2:=λe=>∀c,Em (motive_2:=λz=>_) e c (λa b c d e=>W (a,b,c,d,e))=W r->e= .For r.1 r.2.1 r.2.2.1 r.2.2.2.1 r.2.2.2.2) e c (λa b c d e z h=>L h▸rfl) c h
noncomputable def uw(a:NS)(x:bu):Bool:=(a.lookup x==W DG)&& !(x==("__debug__" :bu))
def lS(a:NS)(x:bu)(f:Nat):Bool:=uw a x&&Fh.any λm=>I (a0 m.1=x)&&m.2==f
def nW(a:NS)(x:bu)(b:String):Bool:=uw a x&&I (a0 b=x)
def isNm(a:NS)(e:aX)(b:String):Bool:=(jM e).any λx=>nW a x.1 b
def jN(a:NS)(b:String)(e:aX):Option aX:=(rZ e).bind λq=>(jM q.1).bind λx=>if(nW a x.1 b&&q.2.2.1.isEmpty)=U then w5 q.2.1 else N
theorem AF(h:jN c b e=W a):∃x g p,e= jc (fE x g) [a] [] p/\nW c x b=U:=by
 show bR (e8.mp h) λq i h=>?_
 show bR (e8.mp h) λx j h=>?_
 obtain⟨d,h⟩:=iff h
 have f:=uv i
 rw[kJ j,Aw h,kA.mp (au d).2]at f
 show x3 _ _ _ ⟨f,(au d).1⟩
noncomputable def qt(o:aX):Bool:= !(o.ctorIdx==16)
def mP(a:String)(e:aX):Option (aX×List aX):=(rZ e).bind λq=>(Ax q.1).bind λt=>if a0 a=t.2.1/\(t.2.2.endLine==q.2.2.2.line)=U/\q.2.1.length<20/\qt t.1=U/\q.2.2.1.isEmpty=U then W (t.1,q.2.1)else N
theorem Fu(h:mP b e=W (o,a)):∃g c,e= jc (rE o (a0 b) g) a [] c/\(g.endLine==c.line)=U/\a.length<20/\qt o=U:=by
 show bR (e8.mp h) λq j h=>?_
 show bR (e8.mp h) λt k h=>?_
 obtain⟨⟨l,m,n,p,r⟩,h⟩:=iff h
 have i:=uv j
 rw[Ay k,<-l,kA.mp r]at i
 show cR (cO (L h)) λd f=>?_;clear h;obtain rfl:=d;obtain rfl:=f
 show x2 _ _ ⟨i,m,n,p⟩
noncomputable def en(a:NS)(l:NS):NS:=l.map λ(n,k)=>if(k== eW&&a.lookup n==W fH)then(n,fH)else(n,k)
noncomputable def AG(b l:NS)(a:List (Option Nat)):Bool:=l.length==a.length&&(l.zip a).all λp=>match p.1.2,p.2 with
 |.free,W i=>(match b[i]? with|some (x,k)=>I (x=p.1.1)&&(k== fH||k== eW)|none=>Y)
 |.local,N=>U
 |.globalImplicit,N=>U
 |_,_=>Y
noncomputable def agw(l:List bu):Bool:=I l.Nodup
def mQ(b:NS)(a:ia)(c:List (Option Nat)):Bool:=a.kind== lK&&I ((a.names.map (·.1)).Nodup)&&AG b a.names c
def iW(c:Bool)(a:NS)(b:Tg)(e:aX):Bool:=match b,e with
 |.var i,e=>(jM e).any λx=>jK c a i x.1
 |.tup l,e=>(rY e).any λq=>I l.Nodup&&(l.length==q.1.length&&(l.zip q.1).all λp=>(jM p.2).any λx=>jK c a p.1 x.1)
noncomputable def VH:BF->String
 |.len=> "len" |.tuple=> "tuple" |.sum=> "sum" |.max=> "max" |.list=> "list" |.dict=> "dict" |.int=> "int" |.str=> "str" |.sorted=> "sorted" |_=> ""
noncomputable def Fv:BM->String
 |.append=> "append" |.extend=> "extend" |.pop=> "pop" |.qf=> "pop" |.oN=> "pop" |.index=> "index" |.get=> "get" |.rM=> "setdefault" |.isspace=> "isspace"
def ux(b:NS)(f:BF)(e:aX):Option aX:=match f with
 |.isTup=>(rZ e).bind λq=>(jM q.1).bind λx=>(rX q.2.1).bind λa=>if(nW b x.1 "isinstance" &&(isNm b a.2 "tuple" &&q.2.2.1.isEmpty))=U then W a.1 else N
 |.sset=>(jN b "sorted" e).bind (jN b "set")
 |.Ah=>(jN b "sorted" e).bind λa=>(mP "items" a).bind λp=>if p.2.isEmpty then W p.1 else N
 |.listItems=>(jN b "list" e).bind λa=>(mP "items" a).bind λp=>if p.2.isEmpty then W p.1 else N
 |f=>jN b (VH f) e
noncomputable def XS.len:XS->Nat|.nil=>0|.cons _ l=>l.len+1
noncomputable def k9(a:It)(b:Tg):Bool:=match a,b with
 |.enum _,bt _=>Y
 |_,_=>U
noncomputable def AH(c:vl):Bool:=I (c.is_async=0)
theorem Fw(h:AH c=U):c=⟨c.target,c.iter,c.ifs,0⟩:=by
 induction c using Rh with
 |mk t i f a=>show aI (Comprehension.mk t i f) (bS h)
noncomputable def Fx:Tg->Tg->Bool
 |.var i,bt j=>I (i≠j)
 |_,_=>Y
mutual
noncomputable def a5(g:NS):X->aX->Bool
 |.none,e=>(qs e).any λc=>I (c.1= .none)
 |.bool b,e=>(qs e).any λc=>I (c.1= .bool b)
 |.int i,e=>(qs e).any λc=>I (c.1= .int i)
 |.str s,e=>(qs e).any λc=>I (c.1= .str (a0 s))&&gJ (a0 s)
 |.var i,e=>(jM e).any λx=>w0 g i x.1
 |.glob k,e=>(jM e).any λx=>lS g x.1 k
 |.attr x k,e=>(Ax e).any λq=>I (k<20)&&(I (q.2.1=attr k)&&(qt q.1&&a5 g x q.1))
 |.item x i,e=>(uq e).any λq=>a5 g x q.1&&a5 g i q.2.1
 |.wL x i,e=>(uq e).any λq=>(Az q.2.1).any λl=>l.1.any λb=>l.2.1.isNone&&(l.2.2.1.isNone&&(a5 g x q.1&&a5 g i b))
 |.lL x i,e=>(uq e).any λq=>(Az q.2.1).any λl=>l.2.1.any λb=>l.1.isNone&&(l.2.2.1.isNone&&(a5 g x q.1&&a5 g i b))
 |.rN x,e=>(uq e).any λq=>(Az q.2.1).any λl=>l.2.2.1.any λb=>(AA b).any λu=>(qs u.2.1).any λc=>l.1.isNone&&(l.2.1.isNone&&(I (u.1= tJ)&&(I (c.1= .int 1)&&a5 g x q.1)))
 |.bin w a b,e=>(LX e).any λq=>I (q.2.1=w)&&(a5 g a q.1&&a5 g b q.2.2.1)
 |.neg a,e=>(AA e).any λq=>I (q.1= tJ)&&a5 g a q.2.1
 |.not a,e=>(AA e).any λq=>I (q.1= .Not)&&a5 g a q.2.1
 |.cmp w a b,e=>(Fo e).any λq=>(w5 q.2.2.1).any λd=>I (q.2.1=[w])&&(a5 g a q.1&&a5 g b d)
 |.wM A B a b c,e=>(Fo e).any λq=>(rX q.2.2.1).any λd=>I (q.2.1=[A,B])&&(a5 g a q.1&&(a5 g b d.1&&a5 g c d.2))
 |.and a b,e=>(vBool e).any λq=>(rX q.2.1).any λd=>I (q.1= .And)&&(a5 g a d.1&&a5 g b d.2)
 |.or a b,e=>(vBool e).any λq=>(rX q.2.1).any λd=>I (q.1= .Or)&&(a5 g a d.1&&a5 g b d.2)
 |.ite c a b,e=>(LZ e).any λq=>a5 g c q.1&&(a5 g a q.2.1&&a5 g b q.2.2.1)
 |.tup l,e=>(rY e).any λq=>I (l.len<1000)&&eJ g l q.1
 |.list _ l,e=>(L6 e).any λq=>I (l.len<1000)&&eJ g l q.1
 |.dict _ l,e=>(L8 e).any λq=>I (q.1.length<=15)&&oW g l q.1 q.2.1
 |.tX x s,e=>(Ma e).any λq=>(rX q.1).any λd=>(Mc d.1).any λv=>(qs d.2).any λc=>I (v.2.1= -1)&&(v.2.2.1.isNone&&(I (c.1= .str (a0 s))&&(gJ (a0 s)&&a5 g x v.1)))
 |.comp _ y m n z h,e=>(AD e).any λq=>(w5 q.2.1).any λc=>AH c&&(k9 n m&&(mQ g q.2.2.1 y&&(kK g n c.iter&&(iW Y (en g q.2.2.1.names) m c.target&&(eJ (en g q.2.2.1.names) z c.ifs&&a5 (en g q.2.2.1.names) h q.1)))))
 |.tY y m n j r h,e=>(AD e).any λq=>(rX q.2.1).any λc=>AH c.1&&(c.1.ifs.isEmpty&&(AH c.2&&(c.2.ifs.isEmpty&&(Fx m j&&(k9 n m&&(k9 r j&&(mQ g q.2.2.1 y&&(kK g n c.1.iter&&(iW Y (en g q.2.2.1.names) m c.1.target&&(kK (en g q.2.2.1.names) r c.2.iter&&(iW Y (en g q.2.2.1.names) j c.2.target&&a5 (en g q.2.2.1.names) h q.1)))))))))))
 |.call f l,e=>(rZ e).any λq=>(jM q.1).any λx=>q.2.2.1.isEmpty&&(lS g x.1 f&&(I (f∉[482,483,484])&&(I (l.len<20)&&eJ g l q.2.1)))
 |.new C _ l,e=>(rZ e).any λq=>(jM q.1).any λx=>q.2.2.1.isEmpty&&(lS g x.1 C&&(I (C∈nV)&&(I (l.len<20)&&eJ g l q.2.1)))
 |.wN t o l,e=>(mP t e).any λp=>a5 g o p.1&&eJ g l p.2
 |.bf f x,e=>(ux g f e).any λa=>a5 g x a
 |.bm f o l,e=>(mP (Fv f) e).any λp=>a5 g o p.1&&eJ g l p.2
noncomputable def eJ(b:NS):XS->List aX->Bool
 |.nil,a=>a.isEmpty
 |.cons x l,a=>(match a with|e::r=>a5 b x e&&eJ b l r|[]=>Y)
noncomputable def oW(c:NS):XP->List (Option aX)->List aX->Bool
 |.nil,d,e=>d.isEmpty&&e.isEmpty
 |.cons k v l,d,e=>(match d,e with|some a::r,b::q=>a5 c k a&&(a5 c v b&&oW c l r q)|_,_=>Y)
noncomputable def kK(b:NS):It->aX->Bool
 |.val x,e=>a5 b x e
 |.range x,e=>(jN b "range" e).any λa=>a5 b x a
 |.enum x,e=>(jN b "enumerate" e).any λa=>a5 b x a
end
noncomputable def AI(a:NS):T->aX->Bool
 |.var i,e=>(jM e).any λx=>jK U a i x.1
 |.tup l,e=>iW U a (jI l) e
 |.attr o k,e=>(Ax e).any λq=>I (k<20)&&(I (q.2.1=attr k)&&a5 a o q.1)
 |.item o i,e=>(uq e).any λq=>a5 a o q.1&&a5 a i q.2.1
noncomputable def w8(e:aX):Bool:=e.ctorIdx==8||(e.ctorIdx==9||e.ctorIdx==10)
def uy(ns:NS)(e v:aX):Bool:=(AD v).any λq=>(jM e).any λt=>ns.lookup t.1==W .local&&t.2.line==v.pos.line&& !(q.2.2.1.names.any λ(n,k)=>n==t.1&&(k==.local||k== fH))
def nameAt(b:NS)(a:Nat)(t:aX):Option bu:=(jM t).bind λq=>if(b.lookup q.1==W .local&&q.2.line==a)=U then W q.1 else N
def AJ(b:NS)(a c:List aX):Option (Option (List bu)) :=
 if(!(a.length==2||a.length==3)||c.length !=a.length)=U then W N
 else if(c.any λt=>t.ctorIdx==22)=U then W N
 else if((a.filterMap (nameAt b ((a.head?.map (·.pos.line)).getD 0))).length !=a.length||(a.filterMap (nameAt b ((a.head?.map (·.pos.line)).getD 0))).eraseDups.length !=(a.filterMap (nameAt b ((a.head?.map (·.pos.line)).getD 0))).length)=U then W N
 else if c.all (foldedForSure 8)=U then W N
 else if c.all (yt 8)=U then N
 else W (W (a.filterMap (nameAt b ((a.head?.map (·.pos.line)).getD 0))))
def uz(c:NS)(e v:aX):Option (Option (List bu)):=if e.ctorIdx==25&&v.ctorIdx==25 then(rY e).bind λa=>(rY v).bind λb=>AJ c a.1 b.1 else W N
noncomputable def AK(e:aX):Bool:= !(e.ctorIdx==24)&& !(e.ctorIdx==22)
mutual
noncomputable def Fy(d:NS):C->dj->Bool
 |.asg t x,s=>(Md s).any λq=>(w5 q.1).any λe=>AI d t e&&(a5 d x q.2.1&&((uz d e q.2.1).isSome&&AK e))
 |.ex x,s=>(Me s).any λq=>a5 d x q.1&& !w8 q.1
 |.ret x,s=>(Mf s).any λq=>match q.1 with
  |some e=>a5 d x e
  |none=>(match x with|.none=>U|_=>Y)
 |.ite c a b,s=>(Mh s).any λq=>a5 d c q.1&&(mR d a q.2.1&&mR d b q.2.2.1)
 |.wO c b,s=>(Mi s).any λq=>q.2.2.1.isEmpty&&(a5 d c q.1&&mR d b q.2.1)
 |.loop f g b,s=>(Mj s).any λq=>q.2.2.2.1.isEmpty&&(k9 g f&&(iW U d f q.1&&(kK d g q.2.1&&mR d b q.2.2.1)))
 |.raise,s=>s.ctorIdx==16
noncomputable def mR(a:NS):CS->List dj->Bool
 |.nil,l=>l.isEmpty
 |.cons c l,b=>(match b with|s::r=>Fy a c s&&mR a l r|[]=>Y)
end
def Mk(F:Fn)(d:l8×List dj×ia):Bool :=
 d.2.2.kind== lK&& !d.2.2.isGenerator&& !d.2.2.isCoroutine&&I (F.ns=d.2.2.names.length)&&I ((d.2.2.names.map (·.1)).Nodup)&&(d.2.2.names.all λp=> !(p.2== eW)) &&
 d.1.posonlyargs.isEmpty&&d.1.vararg.isNone&&d.1.kwonlyargs.isEmpty&&d.1.kwarg.isNone&&d.1.defaults.isEmpty&&d.1.kw_defaults.isEmpty &&
 F.ps.length==d.1.args.length&&I F.ps.Nodup&&((F.ps.zip d.1.args).all λp=>jK U d.2.2.names p.1 p.2.arg)&&mR d.2.2.names F.bd d.2.1
theorem VI{x:Data}{f:vj->Bool}{P:Prop}(h:(match x with|.func a=>f a|_=>Y)=U)(k:∀a,x= .func a->f a=U->P):P:=by
 cases x<;>first|show ff h|show k _ rfl h
noncomputable def codeB(q:bu)(a:cC):Bool:=a.alive&&match a.data with|.fields b=>(match b[1]? with|some (fU s _)=>s==q|_=>Y)|_=>Y
def Ml(P:dg)(r:Nat×Fn):Bool:=I (r.1<670)&&(((tS P).get r.1).getD jU).alive&&match(((tS P).get r.1).getD jU).data with
 |.func a=>(match a.body with|.stmts l=>Mk r.2 (a.params,l,a.scope)|_=>Y)&&a.globals==lu&&a.closure.isEmpty&&(match a.defaults with|.none=>U|_=>Y)&&a.builtins==sT&&(match a.code with|.ref c=>c==r.1-1|_=>Y)&&codeB a.qualname (((tS P).get (r.1-1)).getD jU)
 |_=>Y
theorem VJ(P:dg):Lx.all (Ml P)=U:=![]
end Pq
section
namespace Pq
noncomputable def qu:List String:=["x", "y", "true", "0", "nil", "all", "and", "or", "not", "imp", "add", "mul", "neg", "app", "rev", "cons", "union", "meet", "less"]
theorem Fz(n f:Nat)(a:List D)(b:St):run (n+1) f a b=if ug.contains f=U then wU (λc=>mJ tb (run n) j4 f c []) a b else mJ tb (run n) j4 f a b:=rfl
end Pq
namespace Pq
noncomputable def AL(o:Option (D×St)):List D:=match o with|some (ay l,_)=>l|_=>[]
@[irreducible] noncomputable def w9:List D:=AL (run 12 549 [bh 557 []] [])
@[irreducible] noncomputable def oX(n:Int):List D:=AL (run 12 523 [bh 531 [(18,aq n)]] [])
@[irreducible] noncomputable def uA:List D:=AL (run 12 575 [bh 583 []] [])
@[irreducible] noncomputable def xa:List D:=AL (run 12 608 [bh 616 [(19,aq 3)]] [])
theorem VK(n:Nat)(a:St):run (n+12) 549 [bh 557 []] a=W (ay w9,a):=![]
theorem VL(n:Nat)(a:St):run (n+12) 523 [bh 531 [(18,aq 2)]] a=W (ay (oX 2),a):=![]
theorem VM(n:Nat)(a:St):run (n+12) 523 [bh 531 [(18,aq 3)]] a=W (ay (oX 3),a):=![]
theorem VN(n:Nat)(a:St):run (n+12) 575 [bh 583 []] a=W (ay uA,a):=![]
theorem VO(n:Nat)(a:St):run (n+12) 608 [bh 616 [(19,aq 3)]] a=W (ay xa,a):=![]
end Pq
end
namespace Pq
theorem Mm(h:ug.contains f=Y):run (n+1) f a b=mJ tb (run n) j4 f a b:=![Fz,h]
theorem AM(a:x.bF=U)(b:y.bF=U)(e:x.kd<=60)(f:y.kd<=60):cG x y=W (I (x=y)):=by
 show aV (D.tT x a) λp c g=>?_
 show aV (D.tT y b) λq d h=>?_
 unfold cG
 rwa[c,d]
 dsimp only
 rwa[aJ ⟨by lia,by lia⟩,D.Ld x y p q a b c d]
theorem FA(a b:bu):cG (bl a) (bl b)=W (I (a=b)):=by rwa[AM rfl rfl (cQ _) (cQ _)];simp
theorem VP(a b:Int):cG (aq a) (aq b)=W (I (a=b)):=by rwa[AM rfl rfl (cQ _) (cQ _)];simp
theorem r0(a b:String):(a0 a=a0 b)=(a=b):=by
 apply propext
 constructor
 .intro h
  rw[IU,IU,Kx]at h
  have e:a.toList.map zQ=b.toList.map zQ:=by simpa using h
  have:∀x y:List Char,x.map zQ=y.map zQ->x=y:=λx=>by
   induction x with
   |nil=>intro y h;induction y using bH<;>simp_all
   |cons c r f=>
    intro y h
    induction y using bH with
    |nil=>trivial
    |cons d q=>
     simp only[ea,oE]at h
     rwa[Char.toNat_inj.mp h.1,f q h.2]
  show String.toList_inj.mp (this _ _ e)
 .rintro rfl;rfl
noncomputable def sD(s:String):D:= bl (a0 s)
noncomputable def iD(n:Nat):D:= aq n
section
variable{tb:Tab}{cal:mH}{ρ:Fm}{σ:St}
theorem FC:ev tb cal .none ρ σ=W (cg,σ):=rfl
theorem AN :ev tb cal (ql b) ρ σ=W (aM b,σ):=rfl
theorem cE :ev tb cal (dI i) ρ σ=W (aq i,σ):=rfl
theorem kL :ev tb cal (fP s) ρ σ=W (bl (a0 s),σ):=rfl
theorem VQ :ev tb cal (ax i) ρ σ=((ρ[i]?).bind id).map λd=>(d,σ):=rfl
theorem VR :ev tb cal (dZ x k) ρ σ=(ev tb cal x ρ σ).bind λr=>(if qj r.2 r.1=U then wQ (look r.2 r.1) k else N).map λd=>(d,r.2):=rfl
theorem VS :ev tb cal (e0 l) ρ σ=(ec tb cal l ρ σ).map λr=>(aw r.1,r.2):=rfl
theorem Mn :ev tb cal (mK m l) ρ σ=(ec tb cal l ρ σ).map λr=>if m then(ak r.2.length,r.2++[aO r.1])else(ay r.1,r.2):=rfl
theorem VT :ev tb cal (f6 f l) ρ σ=(ec tb cal l ρ σ).bind λr=>cal f r.1 r.2:=rfl
theorem VU :ev tb cal (fa f x) ρ σ=(ev tb cal x ρ σ).bind λr=>(eY f r.2 r.1).map λd=>(d,r.2):=rfl
theorem VV :ev tb cal (gL f o l) ρ σ=(ev tb cal o ρ σ).bind λr=>if wR f (look r.2 r.1)=U then(ec tb cal l ρ r.2).bind λq=>f5 f r.1 q.1 q.2 else N:=rfl
theorem VW:ec tb cal aT ρ σ=W ([],σ):=rfl
theorem VX :ec tb cal (aS x l) ρ σ=(ev tb cal x ρ σ).bind λr=>(ec tb cal l ρ r.2).map λq=>(r.1::q.1,q.2):=rfl
theorem VY :fJ tb cal (dW x) ρ σ=(ev tb cal x ρ σ).bind λr=>(EL r.1).map λl=>(l,r.2):=rfl
theorem eI:ba tb cal c7 ρ σ=W (N,ρ,σ):=rfl
theorem VZ :ev tb cal (dB a o l) ρ σ=(ev tb cal o ρ σ).bind λr=>(Aj (look r.2 r.1)).bind λC=>(tb.me C a).bind λf=>(ec tb cal l ρ r.2).bind λq=>cal f (r.1::q.1) q.2:=rfl
theorem V0{C:Nat} :ev tb cal (oR C a l) ρ σ=(ec tb cal l ρ σ).bind λr=>newD tb cal C a r.1 r.2:=rfl
theorem V1 :ev tb cal (.ite c a b) ρ σ=iy (ev tb cal c ρ σ) (λσ=>ev tb cal a ρ σ) λσ=>ev tb cal b ρ σ:=rfl
theorem V2 :ev tb cal (nR a b) ρ σ=iy (ev tb cal a ρ σ) (λσ=>ev tb cal b ρ σ) λσ=>W (aM Y,σ):=rfl
theorem V3 :ev tb cal (.or a b) ρ σ=iy (ev tb cal a ρ σ) (λσ=>W (aM U,σ)) λσ=>ev tb cal b ρ σ:=rfl
theorem V4 :ev tb cal (.not a) ρ σ=iy (ev tb cal a ρ σ) (λσ=>W (aM Y,σ)) λσ=>W (aM U,σ):=rfl
theorem FD :ba tb cal (cZ c l) ρ σ=(ex tb cal c ρ σ).bind λq=>rQ q λρ σ=>ba tb cal l ρ σ:=rfl
theorem V5 :ba tb cal (cZ (.ret x) l) ρ σ=(ev tb cal x ρ σ).map λr=>(W r.1,ρ,r.2):=by
 rwa[FD];show((ev tb cal x ρ σ).map _).bind _=_;cases ev tb cal x ρ σ<;>rfl
theorem V6 :ba tb cal (cZ (jJ t x) l) ρ σ=(ev tb cal x ρ σ).bind λr=>(kH tb cal t r.1 ρ r.2).bind λq=>ba tb cal l q.1 q.2:=by
 rwa[FD];show((ev tb cal x ρ σ).bind _).bind _=_
 cases ev tb cal x ρ σ with
 |none=>rfl
 |some r=>show((kH tb cal t r.1 ρ r.2).map _).bind _=(kH tb cal t r.1 ρ r.2).bind _;cases kH tb cal t r.1 ρ r.2<;>rfl
theorem V7 :ba tb cal (cZ (.ex x) l) ρ σ=(ev tb cal x ρ σ).bind λr=>ba tb cal l ρ r.2:=by
 rwa[FD];show((ev tb cal x ρ σ).map _).bind _=_;cases ev tb cal x ρ σ<;>rfl
theorem j2 :ba tb cal (cZ (k7 c a b) l) ρ σ=(iy (ev tb cal c ρ σ) (λσ=>ba tb cal a ρ σ) λσ=>ba tb cal b ρ σ).bind λq=>rQ q λρ σ=>ba tb cal l ρ σ:=rfl
theorem qv{i:Nat}(h:ev tb cal x ρ σ=W (aq i,a))(b:i<1048576):fJ tb cal (nS x) ρ σ=W ((bE i).map λk=> aq (k:Nat),a):=by
 have e:EM (aq (i:Int))=W ((bE (i:Int).toNat).map λk=> aq (k:Nat)):=by
  unfold EM
  show aJ ⟨je i,by unfold hH;lia⟩
 show(ev tb cal x ρ σ).bind _=_
 rwa[h,c5]
 dsimp only
 rwa[e,rG,sL]
end
section
variable{tb:Tab}{cal:mH}{ρ:Fm}{σ σ':St}{d:D}{P:Prop}
theorem lg(h:(o.map λr=>(r,a))=W (d,σ'))(k:o=W d->a=σ'->P):P:=by
 show eG (h) λr e f=>?_
 clear h;show cR (cO f) λb c=>?_;clear f;obtain rfl:=b;obtain rfl:=c
 show k e rfl
theorem iX{f:D×St->Option b}{a:b}(h:o.bind f=W a)(k:∀x s,o=W (x,s)->f (x,s)=W a->P):P:=by
 obtain⟨⟨x,s⟩,e,c⟩:=e8.mp h
 show k x s e c
theorem V8(h:ev tb cal (dZ x i) ρ σ=W (d,σ'))(k:∀a,ev tb cal x ρ σ=W (a,σ')->qj σ' a=U->wQ (look σ' a) i=W d->P):P:=by
 show iX h λa s e h=>lg h λb f=>?_
 clear h;subst f
 dsimp only at b
 split at b
 .rename_i c;show k a e c b
 .show nn b
theorem V9(h:ev tb cal (cK x i) ρ σ=W (d,σ'))(k:∀b a c,ev tb cal x ρ σ=W (b,a)->ev tb cal i ρ a=W (c,σ')->hM (look σ' b) c=W d->P):P:=by
 show iX h λb s e h=>iX h λc l f h=>lg h λg j=>?_
 clear h;subst j;show k _ _ _ e f g
theorem Wa(h:ev tb cal (mL x i) ρ σ=W (d,σ'))(k:∀b a c,ev tb cal x ρ σ=W (b,a)->ev tb cal i ρ a=W (c,σ')->rO b c=W d->P):P:=by
 show iX h λb s e h=>iX h λc l f h=>lg h λg j=>?_
 clear h;subst j;show k _ _ _ e f g
theorem Wb(h:ev tb cal (.lL x i) ρ σ=W (d,σ'))(k:∀b a c,ev tb cal x ρ σ=W (b,a)->ev tb cal i ρ a=W (c,σ')->rP b c=W d->P):P:=by
 show iX h λb s e h=>iX h λc l f h=>lg h λg j=>?_
 clear h;subst j;show k _ _ _ e f g
theorem Wc(h:ev tb cal (iV a x i) ρ σ=W (d,σ'))(k:∀c b f,ev tb cal x ρ σ=W (c,b)->ev tb cal i ρ b=W (f,σ')->lM a (look σ' c) (look σ' f)=W d->P):P:=by
 show iX h λc s e h=>iX h λf m g h=>lg h λj l=>?_
 clear h;subst l;show k _ _ _ e g j
theorem Mo(h:ev tb cal (dR a x i) ρ σ=W (d,σ'))(k:∀c b f,ev tb cal x ρ σ=W (c,b)->ev tb cal i ρ b=W (f,σ')->hK a (look σ' c) (look σ' f)=W d->P):P:=by
 show iX h λc s e h=>iX h λf m g h=>lg h λj l=>?_
 clear h;subst l;show k _ _ _ e g j
theorem We(h:ev tb cal (gL f o l) ρ σ=W (d,σ'))(k:∀c a g b,ev tb cal o ρ σ=W (c,a)->wR f (look a c)=U->ec tb cal l ρ a=W (g,b)->f5 f c g b=W (d,σ')->P):P:=by
 show iX h λc s e h=>?_
 split at h
 .rename_i t
  obtain⟨⟨g,j⟩,i,h⟩:=e8.mp h
  show k _ _ _ _ e t i h
 .show nn h
theorem Wf(h:ev tb cal .none ρ σ=W (d,σ')){Q:D->St->Prop}(k:Q cg σ):Q d σ':=by
 show cR (cO (L h)) λa b=>?_;clear h;obtain rfl:=a;obtain rfl:=b;show k
theorem Wg(h:ev tb cal (ql b) ρ σ=W (d,σ')){Q:D->St->Prop}(k:Q (aM b) σ):Q d σ':=by
 show cR (cO (L h)) λa c=>?_;clear h;obtain rfl:=a;obtain rfl:=c;show k
theorem Wh(h:ev tb cal (dI b) ρ σ=W (d,σ')){Q:D->St->Prop}(k:Q (aq b) σ):Q d σ':=by
 show cR (cO (L h)) λa c=>?_;clear h;obtain rfl:=a;obtain rfl:=c;show k
theorem Wi(h:ev tb cal (fP b) ρ σ=W (d,σ')){Q:D->St->Prop}(k:Q (bl (a0 b)) σ):Q d σ':=by
 show cR (cO (L h)) λa c=>?_;clear h;obtain rfl:=a;obtain rfl:=c;show k
theorem v_var(h:ev tb cal (ax i) ρ σ=W (d,σ')){Q:St->Prop}(k:ρ[i]?=W (W d)->Q σ):Q σ':=by
 show lg h λa b=>?_
 clear h;subst b
 show bU (a) λo c e=>?_
 show k (![c,show o=W d from e])
theorem oY(h:iy o f g=W a)(e:∀s,o=W (aM U,s)->f s=W a->P)(i:∀s,o=W (aM Y,s)->g s=W a->P):P:=by
 obtain⟨⟨x,s⟩,rfl,h⟩:=e8.mp h
 induction x using bJ with
 |bool b=>induction b with|false=>show i s rfl h|true=>show e s rfl h
 |_=>show nn h
theorem v_and(h:ev tb cal (nR a b) ρ σ=W (d,σ'))(c:∀s,ev tb cal a ρ σ=W (aM U,s)->ev tb cal b ρ s=W (d,σ')->P)(e:∀s,ev tb cal a ρ σ=W (aM Y,s)->W (aM Y,s)=W (d,σ')->P):P:=by
 rw[V2]at h;show oY h c e
theorem v_or(h:ev tb cal (.or a b) ρ σ=W (d,σ'))(c:∀s,ev tb cal a ρ σ=W (aM U,s)->W (aM U,s)=W (d,σ')->P)(e:∀s,ev tb cal a ρ σ=W (aM Y,s)->ev tb cal b ρ s=W (d,σ')->P):P:=by
 rw[V3]at h;show oY h c e
theorem v_ite(h:ev tb cal (.ite c a b) ρ σ=W (d,σ'))(e:∀s,ev tb cal c ρ σ=W (aM U,s)->ev tb cal a ρ s=W (d,σ')->P)(f:∀s,ev tb cal c ρ σ=W (aM Y,s)->ev tb cal b ρ s=W (d,σ')->P):P:=by
 rw[V1]at h;show oY h e f
theorem Wj(h:ev tb cal (f6 f l) ρ σ=W (d,σ'))(k:∀a s,ec tb cal l ρ σ=W (a,s)->cal f a s=W (d,σ')->P):P:=by
 obtain⟨⟨x,s⟩,e,b⟩:=e8.mp h
 show k x s e b
theorem Mp(h:ec tb cal (aS x l) ρ σ=W (a,σ')){Q:List D->Prop}(k:∀f s r,ev tb cal x ρ σ=W (f,s)->ec tb cal l ρ s=W (r,σ')->Q (f::r)):Q a:=by
 obtain⟨⟨m,s⟩,e,g⟩:=e8.mp h
 obtain⟨⟨r,n⟩,j,i⟩:=ej.mp g
 clear g h;show cR (cO i) λb c=>?_;clear i;obtain rfl:=b;obtain rfl:=c
 show k _ _ _ e j
theorem Wk(h:ev tb cal (e0 l) ρ σ=W (d,σ')){Q:D->Prop}(k:∀c,ec tb cal l ρ σ=W (c,σ')->Q (aw c)):Q d:=by
 obtain⟨⟨r,g⟩,f,e⟩:=ej.mp h
 clear h;show cR (cO e) λa b=>?_;clear e;obtain rfl:=a;obtain rfl:=b
 show k _ f
theorem Wl(h:ev tb cal (.neg x) ρ σ=W (d,σ')){Q:D->Prop}(k:∀i,ev tb cal x ρ σ=W (aq i,σ')->Q (aq (-i))):Q d :=
 iX h λb s e h=>lg h λa c=>by
  subst c
  clear h;induction b using bJ<;>first|show nn a|skip
  rwa[<-L a];show k _ e
theorem Wm(h:ev tb cal (.rN x) ρ σ=W (d,σ'))(k:∀a,ev tb cal x ρ σ=W (a,σ')->Ai a=W d->P):P :=
 iX h λa s e h=>lg h λb c=>by clear h;subst c;show k _ e b
theorem v_not(h:ev tb cal (.not x) ρ σ=W (d,σ')){Q:D->Prop}(k:∀b,ev tb cal x ρ σ=W (aM b,σ')->Q (aM (!b))):Q d :=
 oY h (λs e h=>by obtain⟨rfl,rfl⟩:=cO (L h);show k U e) λs e h=>by obtain⟨rfl,rfl⟩:=cO (L h);show k Y e
theorem Mq{l p:m9}(h:ev tb cal (t5 l p a b c) ρ σ=W (d,σ'))(q:∀j f i g m,ev tb cal a ρ σ=W (j,f)->ev tb cal b ρ f=W (i,g)->hK l (look g j) (look g i)=W (aM U)->ev tb cal c ρ g=W (m,σ')->hK p (look σ' i) (look σ' m)=W d->P)
(r:∀j f i,ev tb cal a ρ σ=aa (j,f)->ev tb cal b ρ f=aa (i,σ')->hK l (look σ' j) (look σ' i)=aa (aM ah)->d= aM ah->P):P :=
 iX h λj s e h=>iX h λi y t h=>oY h
  (λu k h=>lg k λn o=>iX h λm z v h=>lg h λw x=>by clear k;subst o;clear h r;subst x;show q _ _ _ _ _ e t n v w)
  (λu k h=>lg k λn o=>by clear k;subst o;clear q;obtain⟨rfl,rfl⟩:=cO (aH h);show r _ _ _ e t n rfl)
theorem Wn(h:ev tb cal (mK m l) ρ σ=W (d,σ'))(k:∀c s,ec tb cal l ρ σ=W (c,s)->(if m then(ak s.length,s++[aO c])else(ay c,s))=(d,σ')->P):P :=
 eG h λz a b=>k _ _ a b
theorem Wo(h:ev tb cal (dB a o l) ρ σ=W (d,σ'))(k:∀g b C f i c,ev tb cal o ρ σ=W (g,b)->Aj (look b g)=W C->tb.me C a=W f->ec tb cal l ρ b=W (i,c)->cal f (g::i) c=W (d,σ')->P):P :=
 iX h λz z e h=>
  bU h λz j h=>bU h λz m h=>bU h λz n h=>k _ _ _ _ _ _ e j m n h
theorem Wq{C:Nat}(h:ev tb cal (oR C a l) ρ σ=W (d,σ'))(k:∀b s,ec tb cal l ρ σ=W (b,s)->newD tb cal C a b s=W (d,σ')->P):P :=
 bU h λz e h=>k _ _ e h
theorem Wr(h:rQ q k=W r):(q.1=N/\k q.2.1 q.2.2=W r)\/(q=r/\∃d,q.1=W d):=by
 obtain⟨o,q⟩:=q
 induction o with
 |none=>show aY ⟨rfl,h⟩
 |some d=>show aW ⟨L h,d,rfl⟩
end
section
variable{ns:NS}{e:aX}{P:aX->Prop}
theorem dq[DecidableEq d]{a b:d}(h:(I (a=b)&&c)=U):a=b/\c=U:=⟨bS (au h).1,(au h).2⟩
theorem nq(h:(a.isNone&&c)=U):a=N/\c=U:=⟨Cj.mp (au h).1,(au h).2⟩
theorem lq(h:(a.isEmpty&&c)=U):a=[]/\c=U:=⟨kA.mp (au h).1,(au h).2⟩
theorem FE(h:((qs e).any λq=>I (q.1=c))=U)(f:∀a b,P (mv c a b)):P e :=
 bW h λz a b=>by rwa[w6 a,bS b];show f _ _
theorem Mr(h:a5 ns .none e=U)(f:∀a b,P (mv .none a b)):P e:=FE h f
theorem Ms(h:a5 ns (ql b) e=U)(f:∀x y,P (mv (.bool b) x y)):P e:=FE h f
theorem Mu(h:a5 ns (dI i) e=U)(f:∀x y,P (mv (.int i) x y)):P e:=FE h f
theorem Ws(h:a5 ns (fP s) e=U)(f:∀x y,gJ (a0 s)=U->P (mv (.str (a0 s)) x y)):P e :=
 bW h λz a b=>by rwa[w6 a,(dq b).1];show f _ _ (dq b).2
theorem Wt(h:a5 ns (ax i) e=U)(f:∀x p,w0 ns i x=U->P (fE x p)):P e :=
 bW h λz a b=>by rwa[kJ a];show f _ _ b
theorem Wu(h:a5 ns (.glob k) e=U)(f:∀x p,lS ns x k=U->P (fE x p)):P e :=
 bW h λz a b=>by rwa[kJ a];show f _ _ b
theorem Wv(h:a5 ns (dZ x k) e=U)(f:∀o p,k<20->qt o=U->a5 ns x o=U->P (rE o (attr k) p)):P e :=
 bW h λz a b=>by rwa[Ay a,(dq (au b).2).1];show f _ _ (bS (au b).1) (au (dq (au b).2).2).1 (au (dq (au b).2).2).2
theorem Ww(h:a5 ns (cK x i) e=U)(f:∀a b p,a5 ns x a=U->a5 ns i b=U->P (rC a b p)):P e :=
 bW h λz a b=>by rwa[uu a];show f _ _ _ (au b).1 (au b).2
theorem Wx(h:a5 ns (iV c a b) e=U)(f:∀x y p,a5 ns a x=U->a5 ns b y=U->P (.BinOp x c y p)):P e :=
 bW h λz a b=>by rwa[LY a,(dq b).1];show f _ _ _ (au (dq b).2).1 (au (dq b).2).2
theorem Mv(h:a5 ns (.neg a) e=U)(f:∀x p,a5 ns a x=U->P (rF tJ x p)):P e :=
 bW h λz a b=>by rwa[AB a,(dq b).1];show f _ _ (dq b).2
theorem Mw(h:a5 ns (.not a) e=U)(f:∀x p,a5 ns a x=U->P (rF .Not x p)):P e :=
 bW h λz a b=>by rwa[AB a,(dq b).1];show f _ _ (dq b).2
theorem Mx(h:a5 ns (dR d a b) e=U)(f:∀x y p,a5 ns a x=U->a5 ns b y=U->P (zv x [d] [y] p)):P e :=
 bW h λz a b=>bW b λz c b=>by rwa[Fq a,Aw c,(dq b).1];show f _ _ _ (au (dq b).2).1 (au (dq b).2).2
theorem My{d g:m9}(h:a5 ns (t5 d g a b c) e=U)(f:∀x y z p,a5 ns a x=U->a5 ns b y=U->a5 ns c z=U->P (zv x [d,g] [y,z] p)):P e :=
 bW h λw a b=>bW b λw c b=>by rwa[Fq a,uo c,(dq b).1];show f _ _ _ _ (au (dq b).2).1 (au (au (dq b).2).2).1 (au (au (dq b).2).2).2
theorem Mz(h:a5 ns (nR a b) e=U)(f:∀x y p,a5 ns a x=U->a5 ns b y=U->P (zw .And [x,y] p)):P e :=
 bW h λz a b=>bW b λz c b=>by rwa[Fs a,uo c,(dq b).1];show f _ _ _ (au (dq b).2).1 (au (dq b).2).2
theorem MA(h:a5 ns (.or a b) e=U)(f:∀x y p,a5 ns a x=U->a5 ns b y=U->P (zw .Or [x,y] p)):P e :=
 bW h λz a b=>bW b λz c b=>by rwa[Fs a,uo c,(dq b).1];show f _ _ _ (au (dq b).2).1 (au (dq b).2).2
theorem dv(h:a5 ns (.ite c a b) e=U)(f:∀t x y p,a5 ns c t=U->a5 ns a x=U->a5 ns b y=U->P (.IfExp t x y p)):P e :=
 bW h λz a b=>by rwa[L5 a];show f _ _ _ _ (au b).1 (au (au b).2).1 (au (au b).2).2
theorem Wy(h:a5 ns (e0 l) e=U)(f:∀c k p,l.len<1000->eJ ns l c=U->P (pU c k p)):P e :=
 bW h λz a b=>by rwa[w7 a];show f _ _ _ (bS (au b).1) (au b).2
theorem Wz(h:a5 ns (mK m l) e=U)(f:∀c p,l.len<1000->eJ ns l c=U->P (.List c p)):P e :=
 bW h λz a b=>by rwa[L7 a];show f _ _ (bS (au b).1) (au b).2
theorem WA(h:a5 ns (t6 m l) e=U)(f:∀c d p,c.length<=15->oW ns l c d=U->P (.Dict c d p)):P e :=
 bW h λz a b=>by rwa[L9 a];show f _ _ _ (bS (au b).1) (au b).2
theorem WB(h:a5 ns (.tX x s) e=U)(f:∀v g k i p,gJ (a0 s)=U->a5 ns x v=U->P (DH [zx v (-1) N g,mv (.str (a0 s)) k i] p)):P e :=
 bW h λz a b=>bW b λz c b=>bW b λz d b=>bW b λz e b=>by
  rwa[Mb a,uo c,VA d,w6 e,(dq b).1,(nq (dq b).2).1,(dq (nq (dq b).2).2).1];show f _ _ _ _ _ (au (dq (nq (dq b).2).2).2).1 (au (dq (nq (dq b).2).2).2).2
theorem WC(h:a5 ns (mL x i) e=U)(f:∀a l q p,a5 ns x a=U->a5 ns i l=U->P (rC a (wb (W l) N N q) p)):P e :=
 bW h λz a b=>bW b λz c b=>bW b λz d b=>by rwa[uu a,Fl c,d,(nq b).1,(nq (nq b).2).1];show f _ _ _ _ (au (nq (nq b).2).2).1 (au (nq (nq b).2).2).2
theorem WD(h:a5 ns (.lL x i) e=U)(f:∀a l q p,a5 ns x a=U->a5 ns i l=U->P (rC a (wb N (W l) N q) p)):P e :=
 bW h λz a b=>bW b λz c b=>bW b λz d b=>by rwa[uu a,Fl c,d,(nq b).1,(nq (nq b).2).1];show f _ _ _ _ (au (nq (nq b).2).2).1 (au (nq (nq b).2).2).2
theorem WE(h:a5 ns (.rN x) e=U)(f:∀a k j l m n,a5 ns x a=U->P (rC a (wb N N (W (rF tJ (mv (.int 1) k j) l)) m) n)):P e :=
 bW h λz a b=>bW b λz c b=>bW b λz d b=>bW b λz e b=>bW b λz g b=>by
  have h:=dq (nq (nq b).2).2;have i:=dq h.2
  rwa[uu a,Fl c,d,(nq b).1,(nq (nq b).2).1,AB e,w6 g,h.1,i.1];show f _ _ _ _ _ _ i.2
theorem MB{b c:Bool}(h:((rZ e).any λq=>(jM q.1).any λx=>q.2.2.1.isEmpty&&(lS ns x.1 f&&(b&&(I (l.len<20)&&eJ ns l q.2.1))))=U)(k:∀x j d p,lS ns x f=U->b=U->l.len<20->eJ ns l d=U->P (jc (fE x j) d [] p)):P e :=
 bW h λz a b=>bW b λz c b=>by
  have h:=au (lq b).2;have g:=au h.2;have i:=au g.2
  rwa[uv a,kJ c,(lq b).1];show k _ _ _ _ h.1 g.1 (bS i.1) i.2
theorem WG(h:a5 ns (f6 f l) e=U)(k:∀x g d p,lS ns x f=U->f∉[482,483,484]->l.len<20->eJ ns l d=U->P (jc (fE x g) d [] p)):P e :=
 MB (c:=U) h λz z z z a b=>k _ _ _ _ a (bS b)
theorem WH(h:a5 ns (oR f z l) e=U)(k:∀x g d p,lS ns x f=U->f∈nV->l.len<20->eJ ns l d=U->P (jc (fE x g) d [] p)):P e :=
 MB (c:=U) h λy y y y a b=>k _ _ _ _ a (bS b)
theorem MC(h:((mP c e).any λp=>a5 ns o p.1&&eJ ns l p.2)=U)(f:∀b g d p,(g.endLine==p.line)=U->d.length<20->qt b=U->a5 ns o b=U->eJ ns l d=U->P (jc (rE b (a0 c) g) d [] p)):P e :=
 bW h λz a b=>by
  show ix (Fu a) λg p i j k m=>?_
  rwa[i];show f _ _ _ _ j k m (au b).1 (au b).2
theorem WI(h:a5 ns (dB a o l) e=U)(f:∀b d c p,(d.endLine==p.line)=U->c.length<20->qt b=U->a5 ns o b=U->eJ ns l c=U->P (jc (rE b (a0 a) d) c [] p)):P e:=MC h f
theorem WJ(h:a5 ns (gL k o l) e=U)(f:∀b c a p,(c.endLine==p.line)=U->a.length<20->qt b=U->a5 ns o b=U->eJ ns l a=U->P (jc (rE b (a0 (Fv k)) c) a [] p)):P e:=MC h f
theorem FF(h:eJ ns aT a=U):a=[]:=kA.mp h
theorem FG(h:eJ ns (aS x l) a=U){P:List aX->Prop}(f:∀e r,a5 ns x e=U->eJ ns l r=U->P (e::r)):P a:=by
 induction a using bH with
 |nil=>show ff h
 |cons e r=>show f e r (au h).1 (au h).2
theorem FH{d:List (Option aX)}(h:oW ns (jl k v l) d c=U){P:List (Option aX)->List aX->Prop}(f:∀a b r q,a5 ns k a=U->a5 ns v b=U->oW ns l r q=U->P (W a::r) (b::q)):P d c:=by
 induction d using bH with
 |nil=>show ff h
 |cons a r=>
  induction a with
  |none=>show ff h
  |some a=>
   induction c using bH with
   |nil=>show ff h
   |cons b q=>show f a b r q (au h).1 (au (au h).2).1 (au (au h).2).2
theorem FI{b:List (Option aX)}(h:oW ns iB b a=U):b=[]/\a=[]:=⟨kA.mp (au h).1,kA.mp (au h).2⟩
noncomputable def xk:X->Nat
 |.none=>19|.bool _=>19|.int _=>19|.str _=>19|.var _=>23|.glob _=>23|.attr _ _=>20|.item _ _=>21|.wL _ _=>21|.lL _ _=>21|.rN _=>21
 |.bin _ _ _=>2|.neg _=>3|.not _=>3|.cmp _ _ _=>15|.wM _ _ _ _ _=>15|.and _ _=>0|.or _ _=>0|.ite _ _ _=>5|.tup _=>25|.list _ _=>24|.dict _ _=>6
 |.tX _ _=>18|.comp _ _ _ _ _ _=>8|.tY _ _ _ _ _ _=>8|_=>16
theorem MD(h:jN ns b e=W a):e.ctorIdx=16:=by show wz (AF h) λn d p c f=>?_;rwa[c];rfl
theorem ME(h:a5 ns (fa k x) e=U)(f:∀a,ux ns k e=W a->a5 ns x a=U->P e):P e:=bW h λa=>f a
theorem WK(h:ux ns k e=W a):e.ctorIdx=16:=by
 induction k<;>first
  |show MD h
  |(show bR (e8.mp h) λz h z=>?_;first|show MD h|show(uv h)▸rfl)
theorem xb(h:a5 ns x e=U):e.ctorIdx=xk x:=by
 induction x using rR with
 |none=>show Mr (P:=λe=>e.ctorIdx=_) h λz z=>rfl
 |bool=>show Ms (P:=λe=>e.ctorIdx=_) h λz z=>rfl
 |int=>show Mu (P:=λe=>e.ctorIdx=_) h λz z=>rfl
 |bf=>show ME (P:=λe=>e.ctorIdx=_) h λz a z=>WK a
 |bm=>show WJ (P:=λe=>e.ctorIdx=_) h λz z z z z z z z z=>rfl
 |wN=>show WI (P:=λe=>e.ctorIdx=_) h λz z z z z z z z z=>rfl
 |_=>show bW h λz a z=>by first|rwa[w6 a];rfl|rwa[kJ a];rfl|rwa[Ay a];rfl|rwa[uu a];rfl|rwa[LY a];rfl|rwa[AB a];rfl|rwa[Fq a];rfl|rwa[Fs a];rfl|rwa[L5 a];rfl|rwa[w7 a];rfl|rwa[L7 a];rfl|rwa[L9 a];rfl|rwa[Mb a];rfl|rwa[AE a];rfl|rwa[uv a];rfl
theorem AO(h:a5 ns x e=U){n:Nat}(a:om n (xk x)=Y):e.ctorIdx≠n:=λq=>vC a (q.symm.trans (xb h))
end
structure eK (n:Nat) (A:bK):Prop where
 hh:A.handled=ae
 depth:A.depth+4*n+10<recursionLimit
 units:A.units+32*n+500<cv
theorem eK.in1{A:bK}(r:eK n A):A.units+300<cv:=lb r.units (aQ rfl)
def bA(w:aU)(n:Nat)(x:X):Prop:=∀(e:aX)(c:NS),a5 c x e=U->∀{a:c8}{f:Fm}{g:G}{s:H}{h b:St}{d:D}{A:bK}{Q:K->H->Prop}{E:K->H->Prop},
 Inv w g s h->bo w g s.heap a c f->eK n A->ev tb (run n) x f h=W (d,b)->PE w g s b d Q->V (Z pw w) A (bw e a) Q E s
def gN(w:aU)(n:Nat)(x:X):Prop:=∀(e:aX)(f:NS),a5 f x e=U->∀{a:c8}{h:Fm}{g:G}{s:H}{i c:St}{b:Bool}{A:bK}{Q:Bool->H->Prop}{E:K->H->Prop},
 Inv w g s i->bo w g s.heap a f h->eK n A->ev tb (run n) x h i=W (aM b,c)->(∀j d,Step [] g s j d->Sat w j d.heap c->Q b d)->V (Z pw w) A (i6 e a (bw e a)) Q E s
def nX(w:aU)(n:Nat)(l:XS):Prop:=∀(f:List aX)(h:NS),eJ h l f=U->∀{a:c8}{i:Fm}{g:G}{s:H}{j b:St}{k:List D}{A:bK}{d:d6}{Q:List K->H->Prop}{E:K->H->Prop},
 Inv w g s j->bo w g s.heap a h i->eK n A->ec tb (run n) l i j=W (k,b)->(∀m e c,Step [] g s e c->Sat w e c.heap b->RL w e c.heap m k->Q m c)->V (Z pw w) A (oh (jz d (ib f a))) Q E s
theorem MF(x:X):om 22 (xk x)=Y/\om 26 (xk x)=Y:=by induction x using rR<;>show⟨rfl,rfl⟩
theorem xc{r:List aX}(h:a5 b x e=U):ib (e::r) a=(Y,bw e a)::ib r a:=by
 induction e using jE<;>first|rfl|show aF rfl (AO h (MF x).1)
theorem WL(h:a5 a x e=U)(o i:K):∃b,Cy e Y o i=operate b (jx o i):=by
 induction e using jE<;>first|show⟨_,rfl⟩|show aF rfl (AO h (MF x).2)
section
variable{w:aU}{n:Nat}
theorem WM:bA w n .none:=λe i h b j g s k a d A Q E I F z f c=>
 Mr (P:=λe=>V (Z pw w) A (bw e b) Q E s) h λz z=>Wf (Q:=λd a=>PE w g s a d Q->V _ A _ Q E s) f (λc=>wpAny_Constant_none (c.same I .none)) c
theorem WN :bA w n (ql b):=λe j h c k g s l a d A Q E I F z i f=>
 Ms (P:=λe=>V (Z pw w) A (bw e c) Q E s) h λz z=>Wg (Q:=λd a=>PE w g s a d Q->V _ A _ Q E s) i (λf=>wpAny_Constant_bool (f.same I (.bool _))) f
theorem WO :bA w n (dI i):=λe j h b k g s l a d A Q E I F z f c=>
 Mu (P:=λe=>V (Z pw w) A (bw e b) Q E s) h λz z=>Wh (Q:=λd a=>PE w g s a d Q->V _ A _ Q E s) f (λc=>ID (c.here I (.int _ _) _)) c
theorem WQ :bA w n (fP x):=λe j h b k g s l a d A Q E I F z f c=>
 Ws (P:=λe=>V (Z pw w) A (bw e b) Q E s) h λz z i=>Wi (Q:=λd a=>PE w g s a d Q->V _ A _ Q E s) f (λc=>IE (c.here I (.str _ _ i) _)) c
theorem WR :bA w n (ax i):=λe k h b l g s m a d A Q E I F z f c=>
 Wt (P:=λe=>V (Z pw w) A (bw e b) Q E s) h λx p h=>v_var (Q:=λa=>PE w g s a d Q->V _ A _ Q E s) f (λj c=>F.name h j λv r=>c.same I r) c
theorem bo.WS{i:NS}{E:K->H->Prop}(F:bo w g s.heap c i e)(I:Inv w g s f)(h:uw i x=U)
(k:nsIn (KK w.params) lu x=aa (aa v))(l:a v s):aj (ar pw w) b (bw (fE x d) c) a E s:=by
 unfold uw at h
 simp only[eu,sN,bX]at h
 obtain⟨mg,j⟩:=I.base.g
 show Kz F.kind (by unfold wi;rwa[F.names];show h.1) (loadGlobal_global (mg:=mg) (F.glob▸j) (mg_of I.K j k) l) h.2
theorem bo.FJ{m:NS}{E:K->H->Prop}(F:bo w g s.heap d m i)(I:Inv w g s j)(h:nW m x b=U)
(p:(b,v)∈k8)(q:a v s):aj (ar pw w) c (bw (fE x e) d) a E s:=by
 unfold nW uw at h
 simp only[eu,sN,bX,decide_eq_true_eq]at h
 obtain⟨⟨r,t⟩,rfl⟩:=h
 obtain⟨mg,o⟩:=I.base.g
 show aV (I.base.b) λmb k l=>?_
 have f:=bQ.mp (Vb w.params) _ p
 simp only[eu,bX,decide_eq_true_eq]at f
 show Kz F.kind (by unfold wi;rwa[F.names];show r) (loadGlobal_builtin (mg:=mg) (mb:=mb) (F.glob▸o) (mg_none_of I.K o f.1.1) (F.bi▸k) ((l _ f.2).trans f.1.2) q) t
theorem MG(P:dg)(h:lS a x f=U):uw a x=U/\nsIn (KK P) lu x=W (W (M f)):=by
 unfold lS at h
 simp only[eu,ti,decide_eq_true_eq,bX]at h
 obtain⟨b,m,c,rfl,rfl⟩:=h
 have:=bQ.mp (Va P) m c
 show⟨b,bX.mp this⟩
theorem bo.FK{j:NS}{E:K->H->Prop}(F:bo w g s.heap c j e)(I:Inv w g s i)(h:lS j x f=U)
(k:a (ao f) s):aj (ar pw w) b (bw (fE x d) c) a E s:=F.WS I (MG w.params h).1 (MG w.params h).2 k
theorem WT{e:Tab}{g:Fm}(h:ev e c (.glob k) g b=W (d,a)){Q:St->Prop}(f:e.gd k=W d->Q b):Q a:=by
 show lg (h:(e.gd k).map (λd=>(d,b))=W (d,a)) λi j=>by clear (h:(e.gd k).map (λd=>(d,b))=W (d,a));subst j;show f i
theorem WU{P:Nat->D->Prop}(h:LG k=W d)(a:P 482 (aw [bl (a0 "?a")])) (b:P 483 (aw [bl (a0 "?b")])) (c:P 484 (aw [bl (a0 "?c")])):P k d:=by
 have h:=ue h
 rw[LD,bB,bB,bI]at h
 rcases h with h|h|h
 all_goals
  show cR (cO h) λe f=>?_;clear h;obtain rfl:=e;obtain rfl:=f
  assumption
theorem WV :bA w n (.glob k):=λe v h f y g s z i d A Q E I F Z l j=>
 Wu (P:=λe=>V (ar pw w) A (bw e f) Q E s) h λx p h=>WT (Q:=λi=>PE w g s i d Q->V (ar pw w) A (bw (fE x p) f) Q E s) l (λm j=>by
  show F.FK I h (j.same I ?_)
  have c:∀(a:Nat)(x:String)(o:cC)(b:Tok),a<670->s.heap.get? a=W (cP #[fU (a0 x) b] 0)->gJ (a0 x)=U->R w g s.heap (M a) (aw [bl (a0 x)]):=λa x o b r t u=>
   .tup t (λq=>aF r (i8.mpr (I.hi _ q))) (dm _) (.cons (.str _ _ u) .nil)
  show WU (P:=λk d=>R w g s.heap (M k) d) m (c _ _ (oB w.params 482) _ (br ..) (I.K 482 _ rfl) (by decide +kernel)) (c _ _ (oB w.params 483) _ (br ..) (I.K 483 _ rfl) (by decide +kernel)) (c _ _ (oB w.params 484) _ (br ..) (I.K 484 _ rfl) (by decide +kernel))) j
end
section
variable{w:aU}{n:Nat}
theorem WW{C:Nat}(I:Inv w g s a)(r:R w g s.heap v d)(h:look a d= bh C l)(b:qj a d=U):C∈nV:=by
 unfold qj at b;rw[h]at b;show bS b
theorem WX(z:bA w n x):bA w n (dZ x k):=λe B h b M g s N H d A Q E a F hr J K=>
 Wv (P:=λe=>aj (Z pw w) A (bw e b) Q E s) h λo p L hc u=>V8 J λU e1 i j=>by
  have hb:attributeBase o (attr k) b (bw o b)=bw o b:=by
   clear u;induction o using jE<;>first|rfl|show ff hc
  rwa[arm_eval_Attribute,hb]
  show ai (z o B u a F hr e1 λv g' s' m c y=>?_)
  show ai (gU (ai (cU (Vo L (λC l q=>WW (a.bz m c) y q i) (a.bz m c) y j λV W Y r f t=>ai (IC (aD (K _ _ _ (m.trans r) f t)))))))
noncomputable def AP(s:H)(v:K):Prop:=∃T a,mc (aZ T) "__getitem__" =bx (W (bM a))/\s.TypeIs v T
theorem WY(I:Inv w g s a)(c:R w g s.heap v d)(h:hM (look a d) e=W r):AP s v:=by
 generalize f:look a d=x at h
 induction x using bJ<;>first|show nn h|skip
 .show bR (nT c f) λt b z=>?_;clear c;obtain rfl:=b;show x2 "str" _ ⟨J5.lookup,CA _ _ _⟩
 .obtain ⟨z,j,k,m,rfl,i,z⟩:=lR c f;show x2 "tuple" _ ⟨J6.lookup,_,i,rfl⟩
 .show oL (jL I c f) λj k m b i z=>?_;clear c;obtain rfl:=b;show x2 "list" _ ⟨J7.lookup,_,i,rfl⟩
 .show oL (qp I c f) λj o m b z l=>?_;clear c;obtain rfl:=b;show x2 "dict" _ ⟨Cv.lookup,l.typeIs⟩
noncomputable def AQ:D->Prop
 |.tup _=>True
 |.lst _=>True
 |.str _=>True
 |_=>False
theorem FL(h:AQ d)(b:R w g s.heap v d):AP s v:=by
 induction d using bJ<;>first|show h.elim|skip
 .obtain ⟨t,rfl,z⟩:=b;show x2 "str" _ ⟨J5.lookup,CA _ _ _⟩
 .obtain ⟨a,e,m,rfl,c,z⟩:=b;show x2 "tuple" _ ⟨J6.lookup,_,c,rfl⟩
 .obtain ⟨a,e,m,rfl,c,z⟩:=b;show x2 "list" _ ⟨J7.lookup,_,c,rfl⟩
theorem WZ(h:rO d e=W r):AQ d:=by induction d using bJ<;>first|show nn h|show trivial
theorem W2(h:rP d e=W r):AQ d:=by induction d using bJ<;>first|show nn h|show trivial
theorem W3(h:Ai d=W r):AQ d:=by induction d using bJ<;>first|show nn h|show trivial
theorem AP.fin(t:AP s v)(h:a):∃T b,mc (aZ T) "__getitem__" =bx (W (bM b))/\s.TypeIs v T/\a :=
 jW t λT b c d=>x2 T b ⟨c,d,h⟩
theorem W4(H:bA w n x)(J:bA w n i):bA w n (cK x i):=λe y h o ρ g s σ K d A Q E I F q L M=>
 Ww (P:=λe=>aj (ar pw w) A (bw e o) Q E s) h λa b p N z=>V9 L λd1 U d2 V W k=>
  Av (WL z) (H a y N I F q V λv g' s' l j B=>J b y z (I.bz l j) (F.step I l) q W λv2 g2 s2 c f r=>
   (WY ((I.bz l j).bz c f) (B.ext c.ext (by showλX h=>aF h bc)) k).fin (Vn (lb q.units (aQ rfl)) ((I.bz l j).bz c f) (B.ext c.ext (by showλX h=>aF h bc)) r k λY Z s3 t m u=>M Y Z s3 ((l.trans c).trans t) m u))
theorem W5(J:bA w n x)(K:bA w n i):bA w n (mL x i):=λe z h r ρ g s σ L d A Q E I F B M N=>
 WC (P:=λe=>aj (ar pw w) A (bw e r) Q E s) h λa l q p U V=>Wa M λd1 W d2 Y Z c=>
  Av (λo i=>⟨_,rfl⟩) (J a z U I F B Y λv g' s' m f H=>CB (K l z V (I.bz m f) (F.step I m) B Z λv2 g2 s2 b j t=>
   aD (aD ((FL (WZ c) ((H.ext b.ext (by showλX h=>aF h bc)).push (e7 v2 aN aN))).fin (Vv ((I.bz m f).bz b j) (H.ext b.ext (by showλX h=>aF h bc)) t c λv3 g3 s3 u k y=>N v3 g3 s3 ((m.trans b).trans u) k y)))))
theorem W6(J:bA w n x)(K:bA w n i):bA w n (.lL x i):=λe z h r ρ g s σ L d A Q E I F B M N=>
 WD (P:=λe=>aj (ar pw w) A (bw e r) Q E s) h λa l q p U V=>Wb M λd1 W d2 Y Z c=>
  Av (λo i=>⟨_,rfl⟩) (J a z U I F B Y λv g' s' m f H=>CB (aD (K l z V (I.bz m f) (F.step I m) B Z λv2 g2 s2 b j t=>
   aD ((FL (W2 c) ((H.ext b.ext (by showλX h=>aF h bc)).push (e7 aN v2 aN))).fin (Vy ((I.bz m f).bz b j) (H.ext b.ext (by showλX h=>aF h bc)) t c λv3 g3 s3 u k y=>N v3 g3 s3 ((m.trans b).trans u) k y)))))
theorem W7(z:bA w n x):bA w n (.rN x):=λe B h m W g s Y H d A Q E I F J K L=>
 WE (P:=λe=>aj (ar pw w) A (bw e m) Q E s) h λa k Z p2 p3 p4 h=>Wm K λd1 M b=>
  Av (λo i=>⟨_,rfl⟩) (z a B h I F J M λv u c p f y=>by
   show CB (aD (aD ?_))
   show aj _ _ (bw _ _) _ _ _
   show CC (ID (Kw ?_))
   have j:Step [] u c u {c with toks:=c.toks+1+1}:=.toks _
   show(FL (W3 b) (y.push (e7 aN aN (bL (-1) (c.toks+1))))).fin (Vz (t:=c.toks+1) ((I.bz p f).bz j (I.bz p f).sat) y b λN U V q l r=>L N U V ((p.trans j).trans q) l r))
theorem W8(B:bA w n a)(H:bA w n b):bA w n (iV c a b):=λe u h m ρ g s σ J d A Q E I F z K L=>
 Wx (P:=λe=>aj (ar pw w) A (bw e m) Q E s) h λx y p M N=>Wc K λd1 U d2 V W o=>
  wpAny_BinOp (B x u M I F z V λv g' s' l i Y=>H y u N (I.bz l i) (F.step I l) z W λv2 g2 s2 f j q=>
   U5 ((I.bz l i).bz f j) (Y.ext f.ext (by showλX h=>aF h bc)) q o λZ g3 s3 r k t=>L Z g3 s3 ((l.trans f).trans r) k t)
theorem MH(l:bA w n a):bA w n (.neg a):=λe m h b u g s y c d A Q E I F o q f=>
 Mv (P:=λe=>V (Z pw w) A (bw e b) Q E s) h λx p h=>Wl (Q:=λd=>PE w g s c d Q->V (Z pw w) A (bw (rF tJ x p) b) Q E s) q (λi r f=>
  CC (l x m h I F o r λv z B k j t=>U6 (I.bz k j) t (f.step k))) f
theorem W9(x:X):om 7 (xk x)=Y:=by induction x using rR<;>rfl
theorem AR(h:a5 a x e=U):behindInMarks b e=Y:=by
 have h:=AO h (W9 x)
 induction e using jE<;>first|rfl|show aF rfl h
theorem Xa(H:bA w n a)(J:bA w n b):bA w n (dR c a b):=λe z h m ρ g s σ K d A Q E I F o L M=>
 Mx (P:=λe=>aj (ar pw w) A (bw e m) Q E s) h λx y p N B=>Mo L λd1 U d2 V W q=>
  wpAny_Compare1 (H x z N I F o V λv g' s' l i Y=>J y z B (I.bz l i) (F.step I l) o W λv2 g2 s2 f j r=>
   w4 (lb o.units (aQ rfl)) ((I.bz l i).bz f j) (Y.ext f.ext (by showλX h=>aF h bc)) r q λZ g3 s3 t k u=>M Z g3 s3 ((l.trans f).trans t) k u) (AR B)
theorem Xb(H:bA w n a)(J:bA w n b):gN w n (dR c a b):=λe z h i ρ g s σ K d A Q E I F o L M=>
 Mx (P:=λe=>aj (ar pw w) A (i6 e i (bw e i)) Q E s) h λx y p N B=>Mo L λd1 U d2 V W q=>
  wpAny_isTrue_Compare1 (H x z N I F o V λv g' s' m j Y=>J y z B (I.bz m j) (F.step I m) o W λv2 g2 s2 f k r=>
   w4 (lb o.units (aQ rfl)) ((I.bz m j).bz f k) (Y.ext f.ext (by showλX h=>aF h bc)) r q λZ g3 s3 t l u=>by
    rwa[show Z=_ from u]
    show l9 (M g3 s3 ((m.trans f).trans t) l)) (AR B)
theorem FN{x:X}(i:bA w n x)(j:∀e d,a5 d x e=U->∀(c:c8)(a:eT K),i6 e c a=(do let v <-a;jA e.pos;ie [v] (truthy v))):gN w n x:=λe d h c u g s y k b A Q E I F l m o=>
 wpAny_isTrue_value (i e d h I F l m λv p q r f t=>by rwa[show v=_ from t];show l9 (o p q r f)) (j e d h c _)
end
section
variable{w:aU}{n:Nat}
theorem Xc(k:bA w n a):bA w n (.not a):=λe l h c u g s y f d A Q E I F m o i=>
 Mw (P:=λe=>V (Z pw w) A (bw e c) Q E s) h λx p h=>v_not (Q:=λd=>PE w g s f d Q->V (Z pw w) A (bw (rF .Not x p) c) Q E s) o (λb q i=>CC (k x l h I F m q λv z B r j t=>by
  obtain rfl:=t
  show J (l9 (aD (i _ _ _ r j (.bool _)))))) i
theorem Xd(o:gN w n a):gN w n (.not a):=λe q h c v g s y u d A Q E I F r f t=>
 Mw (P:=λe=>V (Z pw w) A (i6 e c (bw e c)) Q E s) h λx p h=>oY f (λz i k=>by obtain⟨k,rfl⟩:=cO (L k);clear f;cases k;show wpAny_isTrue_Not (o x q h I F r i λj l m b=>t j l m b))
  λz i k=>by obtain⟨k,rfl⟩:=cO (L k);clear f;cases k;show wpAny_isTrue_Not (o x q h I F r i λj l m b=>t j l m b)
theorem MI(h:PE w g s c d a)(k:W (aM b,f)=W (d,c)):f=c/\PE w g s c (aM b) a:=by
 revert h;show zY _ (cO (L k)) λe h=>?_;show⟨e,h⟩
theorem snd_and(r:bA w n a)(z:bA w n b):bA w n (nR a b):=λe j h l L g s M B d A Q E I F m t i=>
 Mz (P:=λe=>V (ar pw w) A (bw e l) Q E s) h λx y p u H=>v_and t (λZ o k=>wpAny_And2 (r x j u I F m o λv J K f c q=>by
  obtain rfl:=q;show l9 (z y j H (I.bz f c) (F.step I f) m k (i.step f))))
  λZ o k=>wpAny_And2 (r x j u I F m o λv J K f c q=>by
   clear t;obtain⟨rfl,i⟩:=MI i k
   obtain rfl:=q;show l9 (i _ _ _ f c (.bool _)))
theorem Xe(r:bA w n a)(z:bA w n b):bA w n (.or a b):=λe j h l L g s M B d A Q E I F m t i=>
 MA (P:=λe=>V (ar pw w) A (bw e l) Q E s) h λx y p u H=>v_or t (λZ o k=>wpAny_Or2 (r x j u I F m o λv J K f c q=>by
  clear t;obtain⟨rfl,i⟩:=MI i k
  obtain rfl:=q;show l9 (i _ _ _ f c (.bool _))))
  λZ o k=>wpAny_Or2 (r x j u I F m o λv J K f c q=>by
   obtain rfl:=q;show l9 (z y j H (I.bz f c) (F.step I f) m k (i.step f)))
theorem Xf(u:gN w n a)(K:gN w n b):gN w n (nR a b):=λe m h j N g s U L d A Q E I F o q r=>
 Mz (P:=λe=>V (ar pw w) A (i6 e j (bw e j)) Q E s) h λx y p v M=>v_and q (λZ t k=>yu (CD (u x m v I F o t λz B i f=>by
  show CD (K y m M (I.bz i f) (F.step I i) o k λH J l c=>?_)
  clear k q;induction d
  .show r H J (i.trans l) c
  .show wpAny_allTrue_And_nil (r H J (i.trans l) c))))
  λZ t k=>yu (CD (u x m v I F o t λz B i f=>by
   obtain⟨k,rfl⟩:=cO (aH k);clear q;cases k;show r z B i f))
theorem Xg(u:gN w n a)(K:gN w n b):gN w n (.or a b):=λe m h f N g s U L d A Q E I F o q r=>
 MA (P:=λe=>V (ar pw w) A (i6 e f (bw e f)) Q E s) h λx y p v M=>v_or q (λZ t k=>yu (CE (u x m v I F o t λz B j i=>by
  obtain⟨k,rfl⟩:=cO (aH k);clear q;cases k;show r z B j i)))
  λZ t k=>yu (CE (u x m v I F o t λz B j i=>by
   show V _ _ (allTrue .Or [y] f) _ _ _
   show CE (K y m M (I.bz j i) (F.step I j) o k λH J l c=>?_)
   clear k q;induction d
   .show wpAny_allTrue_Or_nil (r H J (j.trans l) c)
   .show r H J (j.trans l) c))
theorem Xh(q:gN w n c)(v:bA w n a)(z:bA w n b):bA w n (.ite c a b):=λe j h m N g s U B d A Q E I F l H r=>
 dv (P:=λe=>V (ar pw w) A (bw e m) Q E s) h λt x y p u J K=>v_ite H (λZ o k=>wpAny_IfExp (q t j u I F l o λL M f i=>by rwa[aJ rfl];show v x j J (I.bz f i) (F.step I f) l k (r.step f)))
  λZ o k=>wpAny_IfExp (q t j u I F l o λL M f i=>by rwa[aL fe];show z y j K (I.bz f i) (F.step I f) l k (r.step f))
theorem Xi(z:gN w n c)(J:gN w n a)(K:gN w n b):gN w n (.ite c a b):=λe o h f Y g s Z L d A Q E I F q M B=>
 dv (P:=λe=>aj (ar pw w) A (i6 e f (bw e f)) Q E s) h λt x y p H N U=>by
  show aj _ _ (do if <-i6 t f (bw t f)then i6 x f (bw x f)else i6 y f (bw y f)) _ _ _
  show v_ite M (λX r k=>ai (z t o H I F q r λV W j l=>by
   rwa[aJ rfl];show J x o N (I.bz j l) (F.step I j) q k λu v m i=>B u v (j.trans m) i))
   λX r k=>ai (z t o H I F q r λV W j l=>by
    rwa[aL fe];show K y o U (I.bz j l) (F.step I j) q k λu v m i=>B u v (j.trans m) i)
theorem AS{U:m9}{a b:X}{V M:D}{W u j:St}{r:Bool}(Z:bA w n a)(hb:bA w n b){x y:aX}{q:NS}(h1:a5 q a x=af)(h2:a5 q b y=af){l:c8}{L:Fm}{g:G}{s:H}{A:bK}{Y:Type}{k:K->K->Bool->eT Y}{p:d6}{Q:Y->H->Prop}{E:K->H->Prop}
(I:Inv w g s W)(F:bo w g s.heap l q L)(N:eK n A)(e1:ev tb (run n) a L W=aa (V,u))(e2:ev tb (run n) b L u=aa (M,j))(hc:hK U (look j V) (look j M)=aa (aM r))
(K:∀i z t,Step [] g s z t->Inv w z t j->bo w z t.heap l q L->R w z t.heap i M->aj (ar pw w) A (k i (eh r) r) Q E t):
 aj (ar pw w) A (do let v <-bw x l;let i <-ie [v] (bw y l);jA p;let B <-ie [v,i] (ly U v i);release [v,i] [B];let c <-ie [B,i] (truthy B);k i B c) Q E s :=
 ai (Z x q h1 I F N e1 λv z t o e rv=>ai (cU (hb y q h2 (I.bz o e) (F.step I o) N e2 λi g2 s2 d f H=>ai (gU (ai (cU
  (w4 (lb N.units (aQ rfl)) ((I.bz o e).bz d f) (rv.ext d.ext (by showλT h=>aF h bc)) H hc λB g3 s3 m J P=>by
   obtain rfl:=P
   show ai (yv (ai (cU (l9 (K i g3 s3 ((o.trans d).trans m) (((I.bz o e).bz d f).bz m J) (((F.step I o).step (I.bz o e) d).step ((I.bz o e).bz d f) m) (H.ext m.ext (by showλT h=>aF h bc))))))))))))))
theorem Xj{N l:m9}(U:bA w n a)(V:bA w n b)(hc:bA w n c):bA w n (t5 N l a b c):=λe ns h f ρ g s σ σ' d A Q E I F q hv W=>
 My (P:=λe=>aj (ar pw w) A (bw e f) Q E s) h λx y z p Y Z h3=>by
  show aj _ _ (do CF p (<-bw x f) [N,l] [bw y f,markedBehindIn l z (bw z f)]) _ _ _
  rwa[IF (AR h3)]
  show Mq hv (λd1 u d2 σ2 d3 v B k e3 H=>AS (k:=λj c t=>if t=af then CF p j [l] [bw z f]else bx c) U V Y Z I F q v B k λv2 g' s' J r F' j=>ai (cU (hc z ns h3 r F' q e3 λv4 g4 s4 i m K=>ai (gU (Cz
   (w4 (lb q.units (aQ rfl)) (r.bz i m) (j.ext i.ext (by showλX h=>aF h bc)) K H λv5 g5 s5 L o M=>W v5 g5 s5 ((J.trans i).trans L) o M))))))
   λd1 u d2 v B k H=>AS (k:=λj c t=>if t=af then CF p j [l] [bw z f]else bx c) U V Y Z I F q v B k λv2 g' s' J r F' j=>aD (W _ g' s' J r.sat (H▸ .bool _))
theorem Xk{N l:m9}(U:bA w n a)(V:bA w n b)(hc:bA w n c):gN w n (t5 N l a b c):=λe ns h f ρ g s σ σ' d A Q E I F q W Y=>
 My (P:=λe=>aj (ar pw w) A (i6 e f (bw e f)) Q E s) h λx y z p Z h2 h3=>by
  show aj _ _ (do testChain p (<-bw x f) [N,l] [bw y f,markedBehindIn l z (bw z f)]) _ _ _
  rwa[IF (AR h3)]
  show Mq W (λd1 u d2 σ2 d3 v B k e3 H=>AS (k:=λj c t=>if t=af then testChain p j [l] [bw z f]else bx ah) U V Z h2 I F q v B k λv2 g' s' J r F' j=>ai (cU (hc z ns h3 r F' q e3 λv4 g4 s4 i m K=>ai (gU (ai (Cz
   (w4 (lb q.units (aQ rfl)) (r.bz i m) (j.ext i.ext (by showλX h=>aF h bc)) K H λv5 g5 s5 L o M=>by
    obtain rfl:=M
    show cU (l9 (Y g5 s5 ((J.trans i).trans L) o)))))))))
   λd1 u d2 v B k H=>AS (k:=λj c t=>if t=af then testChain p j [l] [bw z f]else bx ah) U V Z h2 I F q v B k λv2 g' s' J r F' j=>aD (by clear W;cases H;show Y g' s' J r.sat)
theorem Xl:nX w n aT:=λf i h a j g s k b l A c Q E I F m d e=>by
 show oI (FF h) ?_
 cases d
 show vm (e [] g s (.refl ..) I.sat .nil)
theorem Xm(H:bA w n x)(J:nX w n l):nX w n (aS x l):=λt u h a Z g s σ j y A b Q E I F z K k=>
 FG (P:=λt=>aj (ar pw w) A (oh (jz b (ib t a))) Q E s) h λe r B L=>Mp (Q:=λy=>(∀m i c,Step [] g s i c->Sat w i c.heap j->RL w i c.heap m y->Q m c)->aj (ar pw w) A (oh (jz b (ib (e::r) a))) Q E s) K (λd1 s1 q M N k=>
  vn (H e u B I F z M λv i c o p U=>J r u L (I.bz o p) (F.step I o) z N λm V W d f Y=>k _ V W (o.trans d) f (.cons (U.ext d.ext (by showλX h=>aF h bc)) Y)) (xc B)) k
theorem FO{d:Fm}(h:ec tb (run n) l d c=W (a,b)):a.length=l.len:=by
 match l,h with
 |.nil,h=>cases h;rfl
 |.cons x l,h=>show Mp (Q:=λa=>a.length=_) h λf s r z e=>aI (· +1) (FO e)
theorem Xn(q:nX w n l):bA w n (e0 l):=λe r h a z g s B b d A Q E I F t u c=>
 Wy (P:=λe=>V (Z pw w) A (bw e a) Q E s) h λi k p v h=>Wk (Q:=λd=>PE w g s b d Q->V (Z pw w) A (bw (pU i k p) a) Q E s) u (λH j c=>wpAny_Tuple (q i r h I F t j λx J K m f o=>by
  have y:x.length<1000:=by rwa[o.length,FO j];show v
  show⟨by have:fL=2^24:=rfl;lia,(c.step m).rL (I.bz m f) (by lia) o⟩)) c
end
section
variable{w:aU}
section
variable{g g':G}{h h':b0}(k:∀b o,¬g.Mt b->h.get? b=aa o->h'.get? b=aa o)(hm:∀a,¬g.Mt a->a<h.objs.size->¬g'.Mt a)(ht:∀(n:Nat) p,g.θ[n]?=aa p->g'.θ[n]?=aa p)
include k hm ht
theorem R.move :R w g h v d->R w g' h' v d:=R.mono (λz z a b=>⟨k _ _ b a,hm _ b (dt a)⟩) ht
theorem RL.move :RL w g h v d->RL w g' h' v d:=RL.mono (λz z a b=>⟨k _ _ b a,hm _ b (dt a)⟩) ht
theorem RE.move :RE w g h v d->RE w g' h' v d:=RE.mono (λz z a b=>⟨k _ _ b a,hm _ b (dt a)⟩) ht
theorem RA.move :RA w g h v d->RA w g' h' v d:=RA.mono (λz z a b=>⟨k _ _ b a,hm _ b (dt a)⟩) ht
end
theorem OR.move(k:∀b o,¬g.Mt b->h.get? b=W o->c.get? b=W o)(j:∀a,¬g.Mt a->a<h.objs.size->¬d.Mt a)(m:∀(n:Nat) p,g.θ[n]?=W p->d.θ[n]?=W p)
(q:∀o,h.get? p.1=aa o->c.get? p.1=aa o)(t:∀o,h.get? p.2=aa o->c.get? p.2=aa o)(r:OR w g h p o):OR w d c p o:=by
 induction o with
 |list u=>show tP r λf n e i z s=>?_;show x2 f n ⟨e,q _ i,z,s.move k j m⟩
 |dict u=>show nI r λf n e i z v s=>?_;show x2 f n ⟨e,q _ i,z,v,s.move k j m⟩
 |inst C l=>show tP r λf n e i x y=>?_;show x2 f n ⟨e,q _ i,t _ x,y.move k j m⟩
def G.more(g:G)(own:List aR):G:=⟨g.θ,own++g.Z⟩
theorem Xo{g:G}{b:List aR} :(g.more b).Ft a↔g.Ft a:=nF
theorem lT{g:G}{own:List aR} :(g.more own).Mt a↔g.Mt a\/a∈own:=by
 unfold G.Mt
 rwa[Xo]
 simp only[G.more,d9]
 constructor
 .rintro (h|h|h)
  .show aY (aY h)
  .show aW h
  .show aY (aW h)
 .rintro ((h|h)|h)
  .show aY h
  .show aW (aW h)
  .show aW (aY h)
structure cu (s s₁:aA):Prop where
 keep:∀b o,s.heap.get? b=aa o->s₁.heap.get? b=aa o
 size:s.heap.objs.size<=s₁.heap.objs.size
 gens:s₁.gens=s.gens
 os:s₁.os=s.os
theorem cu.refl(s:H):cu s s:=⟨λz z e=>e,bG _,rfl,rfl⟩
theorem cu.trans(x:cu s s₁)(y:cu s₁ a):cu s a:=⟨λb o e=>y.keep b o (x.keep b o e),P x.size y.size,y.gens.trans x.gens,y.os.trans x.os⟩
theorem cu.push(s:H)(o:cC):cu s {s with heap:=s.heap.push o}:=⟨λz z e=>dF _ e,by show _<=(s.heap.push o).objs.size;rwa[eP];show gW _,rfl,rfl⟩
theorem cu.toks(x:cu s s₁)(a:Nat):cu s {s₁ with toks:=a}:=⟨x.keep,x.size,x.gens,x.os⟩
section
variable{g g':G}{s s₁ qw:aA}{σ σ':St}{own:List aR}
theorem R.enter(G:cu s s₁)(c:∀a∈own,s.heap.objs.size<=a)(r:R w g s.heap v d):R w (g.more own) s₁.heap v d :=
 r.move (λb o z e=>G.keep b o e) (λa f i q=>(lT.mp q).elim f λh=>cq _ (bg i (c a h))) λz z e=>e
theorem RL.enter(G:cu s s₁)(c:∀a∈own,s.heap.objs.size<=a)(r:RL w g s.heap v d):RL w (g.more own) s₁.heap v d :=
 r.move (λb o z e=>G.keep b o e) (λa f i q=>(lT.mp q).elim f λh=>cq _ (bg i (c a h))) λz z e=>e
theorem Inv.enter(I:Inv w g s σ)(G:cu s s₁)(d:∀a∈own,s.heap.objs.size<=a)(f:∀a∈own,a<s₁.heap.objs.size):Inv w (g.more own) s₁ σ where
 base:=I.base.keeps λb o z e=>G.keep b o e
 hi:=λa c=>(lT.mp c).elim (I.hi a) λh=>P I.base.y.size (d a h)
 jn:=λa c=>(d9.mp c).elim (f a) λh=>bg (I.jn a h) G.size
 sat:={
  len:=I.sat.len
  obj:=λn p o j i=>(I.sat.obj n p o j i).move (λb o z e=>G.keep b o e) (λa k f q=>(lT.mp q).elim k λh=>cq _ (bg f (d a h))) (λz z e=>e) (λo e=>G.keep _ o e) λo e=>G.keep _ o e
  apart:=I.sat.apart
  fz:=λa c q=>(d9.mp q).elim (λh=>cq _ (bg (I.sat.low c) (d a h))) (I.sat.fz a c)}
theorem bo.enter{env:c8}{t:List (bu×gF)}{u:Fm}(F:bo w g s.heap env t u)(G:cu s s₁)(y:∀a∈own,s.heap.objs.size<=a):bo w (g.more own) s₁.heap env t u where
 kind:=F.kind
 names:=F.names
 glob:=F.glob
 bi:=F.bi
 len:=F.len
 nd:=F.nd
 loc:=by
  show aV (F.loc) λm A r=>?_
  show⟨m,A.at' λo e=>G.keep _ o e,λi x d b f=>?_⟩
  show aV (r i x d b f) λv h j=>?_
  show⟨v,h,j.enter G y⟩
 cell:=λi x k b f=>by
  obtain⟨c,B,l,Q,⟨o,n,H⟩,r⟩:=F.cell i x k b f
  show⟨c,B,l,Q,⟨o,G.keep _ _ n,H⟩,λd q=>?_⟩
  show aV (r d q) λv h j=>?_
  show⟨v,h,j.enter G y⟩
 apart:=F.apart
 z:=fG _ F.z
 zc:=λp I=>fG _ (F.zc p I)
noncomputable def G.less(g:G)(Z:List aR):G:=⟨g.θ,Z⟩
theorem oZ(c:∀a∈b,a∈g'.Z)(h:(g'.less b).Mt a):g'.Mt a:=h.elim aY λq=> aW (c a q)
theorem Step.leave{f:List aR}(G:cu s s₁)(j:∀a∈own,s.heap.objs.size<=a)(x:Step f (g.more own) s₁ g' qw)(d:∀a∈f,a∈own):Step [] g s (g'.less g.Z) qw where
 ext:={
  z:=rfl
  pre:=by
   show aV (x.ext.pre) λc e h=>?_
   show⟨c,e,λp i=>⟨P G.size (h p i).1,P G.size (h p i).2⟩⟩
  keep:=λb o k y e=>x.ext.keep b o k (λq=>cq _ (bg (dt e) (j b (d b q)))) (G.keep b o e)
  size:=P G.size x.ext.size}
 gens:=x.gens.trans G.gens
 os:=x.os.trans G.os
theorem o5{b:List aR}(x:Step b (g.more own) s₁ g' qw):∀a∈g.Z,a∈g'.Z:=λa c=>by rwa[x.ext.z];show fG _ c
theorem R.leave(c:∀a∈b,a∈g'.Z)(r:R w g' h v d):R w (g'.less b) h v d :=
 r.move (λz z z e=>e) (λz f z q=>f (oZ c q)) λz z e=>e
theorem RL.leave(c:∀a∈b,a∈g'.Z)(r:RL w g' h v d):RL w (g'.less b) h v d :=
 r.move (λz z z e=>e) (λz f z q=>f (oZ c q)) λz z e=>e
theorem RE.leave(c:∀a∈b,a∈g'.Z)(r:RE w g' h v d):RE w (g'.less b) h v d :=
 r.move (λz z z e=>e) (λz f z q=>f (oZ c q)) λz z e=>e
theorem Sat.leave{Z:List aR}(c:∀a∈Z,a∈g'.Z){h:b0}(x:Sat w g' h σ):Sat w (g'.less Z) h σ where
 len:=x.len
 obj:=λn p o d b=>(x.obj n p o d b).move (λz z z e=>e) (λz f z q=>f (oZ c q)) (λz z e=>e) (λz e=>e) λz e=>e
 apart:=x.apart
 fz:=λa i q=>x.fz a i (c a q)
noncomputable def G.add(g:G)(p:aR×aR):G:=⟨g.θ++[p],g.Z⟩
theorem FP :(g.add p).Ft a↔g.Ft a\/a=p.1\/a=p.2:=by
 delta G.Ft G.add
 simp only[d9,bI]
 constructor
 .rintro ⟨q,h|rfl,e⟩
  .show aY ⟨q,h,e⟩
  .show aW e
 .rintro (⟨q,h,e⟩|e)
  .show ⟨q,aY h,e⟩
  .show ⟨p,aW rfl,e⟩
theorem uB :(g.add p).Mt a↔g.Mt a\/a=p.1\/a=p.2:=by
 unfold G.Mt
 rwa[FP]
 show(_\/a∈g.Z)↔_
 constructor
 .rintro ((h|h)|h)
  .show aY (aY h)
  .show aW h
  .show aY (aW h)
 .rintro ((h|h)|h)
  .show aY (aY h)
  .show aW h
  .show aY (aW h)
theorem RL.MJ(G:cu s s₁)(c:s.heap.objs.size<=p.1/\s.heap.objs.size<=p.2)(r:RL w g s.heap v d):RL w (g.add p) s₁.heap v d :=
 r.move (λb o y e=>G.keep b o e) (λa h f q=>(uB.mp q).elim h (λz=>z.elim (λe=>cq _ (bg (e▸f) c.1)) λe=>cq _ (bg (e▸f) c.2))) λn q e=>by
  show(g.θ++[p])[n]?=W q
  rwa[fB (cD.mp e).1];show e
theorem MK(I:Inv w g s σ)(G:cu s s₁)(d:s.heap.objs.size<=p.1/\s.heap.objs.size<=p.2)(r:OR w (g.add p) s₁.heap p o):
 Step [] g s (g.add p) s₁/\Sat w (g.add p) s₁.heap (σ++[o])/\R w (g.add p) s₁.heap (M p.1) (ak σ.length):=by
 show⟨⟨⟨rfl,⟨[p],rfl,λq i=>by rwa[bI.mp i];show d⟩,λb o Z Z e=>G.keep b o e,G.size⟩,G.gens,G.os⟩,⟨?_,λn q x l j=>?_,?_,λa y q=>?_⟩,?_⟩
 .show (σ++[o]).length=(g.θ++[p]).length
  simp[I.sat.len]
 .have c:(g.θ++[p])[n]?=W q:=l
  by_cases k:n<g.θ.length
  .rw [fB k]at c
   rw[fB (by rwa[I.sat.len];show k)]at j
   show(I.sat.obj n q x c j).move (λb o Z e=>G.keep b o e) (λa A t z=>(uB.mp z).elim A (λz=>z.elim (λe=>cq _ (bg (e▸t) d.1)) λe=>cq _ (bg (e▸t) d.2))) (λm z e=>?_) (λo e=>G.keep _ o e) λo e=>G.keep _ o e
   show(g.θ++[p])[m]?=W z
   rwa[fB (cD.mp e).1];show e
  .have f:=(cD.mp c).1
   simp only[cF,vN]at f
   have:n=g.θ.length:=by lia
   clear f k;subst this
   rw[mn (bG _),jC]at c
   rw[<-I.sat.len,mn (bG _),jC]at j
   clear l;cases c;cases j;show r
 .show (g.θ++[p]).Pairwise _
  rwa[Dk]
  show⟨I.sat.apart,by grind,λq i z B=>?_⟩
  rwa[bI.mp B]
  have u:=I.sat.low ⟨q,i,aY rfl⟩
  have v:=I.sat.low ⟨q,i,aW rfl⟩
  show⟨eU (bg u d.1),eU (bg u d.2),eU (bg v d.1),eU (bg v d.2)⟩
 .rcases FP.mp y with h|rfl|rfl
  .show I.sat.fz a h q
  .show cq _ (bg (I.jn _ q) d.1)
  .show cq _ (bg (I.jn _ q) d.2)
 .show .obj (n:=σ.length) (a:=p.1) (dx:=p.2) ?_
  show(g.θ++[p])[σ.length]?=W (p.1,p.2)
  rwa[I.sat.len,mn (bG _),jC];rfl
end
section
variable{n:Nat}
theorem PE.Xp(I:Inv w g s c)(e:b.length<=2^20)(f:RL w g s.heap b d)(i:PE w g s (c++[aO d]) (ak c.length) a):a (M s.heap.objs.size) {s with heap:=s.heap.push (bO b.toArray 0)} :=
 have G:=cu.push s (bO b.toArray 0)
 have h:=MK (p:=(s.heap.objs.size,s.heap.objs.size)) (o:= aO d) I G ⟨bG _,bG _⟩ (x2 b.toArray 0 ⟨rfl,dQ _ rfl,e,f.MJ (p:=(s.heap.objs.size,s.heap.objs.size)) G ⟨bG _,bG _⟩⟩)
 i _ _ _ h.1 h.2.1 h.2.2
theorem Xq(q:nX w n l):bA w n (mK m l):=λe r h c H g s J t d A Q E I F u f k=>
 Wz (P:=λe=>V (Z pw w) A (bw e c) Q E s) h λv p x h=>Wn f λK y i o=>wpAny_List (q v r h I F u i λz L M b a j=>by
  have B:z.length<1000:=by rwa[j.length,FO i];show x
  show⟨by have:fL=2^24:=rfl;lia,?_⟩
  induction m with
  |false=>clear f i;cases o;show(k.step b).tW (I.bz b a) (by lia) j
  |true=>clear f;cases o;show PE.Xp (I.bz b a) (by lia) j (k.step b))
end
end
theorem ML(h:Runs a c p t d s e b):s.heap.objs.size<=b.heap.objs.size:=by
 induction h<;>(try simp only[Shared.setGen,eP,zq]at *)<;>(first|show P ‹_› ‹_›|assumption|show eL ‹_›|show bG _|lia)
theorem Xr(h:Returns a c p s r b):s.heap.objs.size<=b.heap.objs.size:=ML h
theorem Xs(h:Wakes a i p g r s d b):s.heap.objs.size<=b.heap.objs.size:=by
 have e:b=s->s.heap.objs.size<=b.heap.objs.size:=λe=>e▸bG _
 have f:∀{m:d6}{t:eT Fin}{n:List Frame}{l:Ctx}{v:End->GenState},(∃j k,Runs a l m t n (s.setGen g .running) j k/\j.quiet=U/\d=j.result/\b=k.setGen g (v j))->s.heap.objs.size<=b.heap.objs.size:=λh=>RB b h λj k q z z=>(ML q:(s.setGen g .running).heap.objs.size<=k.heap.objs.size)
 delta Wakes at h
 revert h
 generalize s.gens[g]?=o
 induction o using yl with
 |none=>showλh=>h.elim
 |some o=>
  induction o using GenState.casesOn with
  |fresh c=>
   induction r using Resume.casesOn with
   |send v=>induction v using Value.casesOn<;>(first|showλh=>e h.2|show f)
   |throw x=>showλh=>h.2▸(bG _:_<=(s.setGen g .finished).heap.objs.size)
  |suspended=>show f
  |running=>showλh=>e h.2
  |finished=>showλh=>e h.2
theorem Xu(M:Model)(v:Ctx)(n:Nat)(t:eT b):∀(Q:b->d6->aA->Prop)(E:K->d6->aA->Prop)(p:d6)(s:aA),n<=s.heap.objs.size->zR M v t Q E p s ->
 zR M v t (λa l j=>n<=j.heap.objs.size/\Q a l j) (λe l j=>n<=j.heap.objs.size/\E e l j) p s:=by
 induction t with
 |pure a=>intro Q E p s d h;show⟨d,h⟩
 |raise e=>intro Q E p s d h;show⟨d,h⟩
 |unsupported _=>intro Q E p s Z h;show h
 |finish _=>intro Q E p s Z h;show h
 |rule _ k i=>intro Q E p s d h;show i () Q E p s d h
 |«at» l k i=>intro Q E p s d h;show i () Q E l s d h
 |load a _ k i=>intro Q E p s d h;show bR h λo y h=>?_;show⟨o,y,i o Q E p s d h⟩
 |update a _ f k i=>intro Q E p s d h;show⟨h.1,i () Q E p _ (by simp only[zq];show d) h.2⟩
 |loadIfAlive a k i=>intro Q E p s d h;show i _ Q E p s d h
 |point _ k i=>intro Q E p s d h;show i () Q E p s d h
 |register _ _=>intro Q E p s Z h;show h
 |alloc o k i=>intro Q E p s d h;show i _ Q E p _ (by simp only[eP];show gV ‹_›) h
 |fresh k i=>intro Q E p s d h;show i _ Q E p _ d h
 |ask k i=>intro Q E p s d h;show i _ Q E p s d h
 |choose z m k i=>intro Q E p s d h;show⟨h.1,i _ Q E p _ d h.2⟩
 |os q _ k i=>intro Q E p s d h;show i _ Q E p _ d h
 |call c hd _ _ k i=>intro Q E p s d h;show nH h λr j w h=>?_;show x2 r j ⟨w,i r Q E p j (P d (Xr w)) h⟩
 |handled A k i=>intro Q E p s d h;show i _ Q E p s d h
 |genState g k i=>intro Q E p s d h;show bR h λB H h=>?_;show⟨B,H,i _ Q E p s d h⟩
 |newGen c k i=>intro Q E p s d h;show i _ Q E p _ d h
 |resume g r _ k i=>intro Q E p s d h;show nH h λu j x h=>?_;show x2 u j ⟨x,i u Q E p j (P d (Xs x)) h⟩
 |yield _ _ _ _=>intro Q E p s Z h;show h
 |stack k i=>intro Q E p s d h;show i _ Q E p s d h
 |fork _ _=>intro Q E p s Z h;show h
 |thread k i=>intro Q E p s d h;show i _ Q E p s d h
 |await _ _ _ _ _=>intro Q E p s Z h;show h
theorem j5{M:Model}{A:bK}{t:eT b}{Q:b->H->Prop}{E:K->H->Prop}(h:V M A t (λa e=>s.heap.objs.size<=e.heap.objs.size->Q a e) E s):V M A t Q E s :=
 λc p d=>Sem.wp_mono M c t (λz z z q=>q.2 q.1) (λz z z q=>q.2) p s (Xu M c _ t _ _ p s (bG _) (h c p d))
noncomputable abbrev AU:List String:=["enumerate", "zip", "dict_itemiterator", "dict_reverseitemiterator", "odict_iterator", "itertools.zip_longest", "itertools.pairwise"]
structure Kept (own:List aR) (s s₁:aA):Prop where
 keep:∀b o,b∉own->s.heap.get? b=aa o->s₁.heap.get? b=aa o
 size:s.heap.objs.size<=s₁.heap.objs.size
 gens:s₁.gens=s.gens
 os:s₁.os=s.os
theorem Kept.step{own:List aR}(k:Kept own s a):Step own g s g a:=⟨⟨rfl,⟨[],by simp,λz h=>aF h bc⟩,λb o z c e=>k.keep b o c e,k.size⟩,k.gens,k.os⟩
noncomputable def mS(e:aX):Bool:=e.ctorIdx==23||e.ctorIdx==25
theorem Xv(h:mS e=U){P:aX->Prop}(a:∀x p,P (fE x p))(b:∀l k p,P (pU l k p)):P e :=
 (iI _ _▸h:_\/_).elim (λh=>zO (motive_1:=P) e (bX.mp h) a) λh=>tK (motive_1:=P) e (bX.mp h) b
structure Iter (w:aU) (A:bK) (iY:aX) (I:aR) (own fp:List aR) (vs:List az) (eQ ds:List D) (St:Nat->b0->Prop):Prop where
 frame:∀i h h',St i h->(∀b∈fp,∀o,h.get? b=aa o->h'.get? b=aa o)->St i h'
 item:∀i (g:G) (s:aA) (d:D) (Q:az->aA->Prop) (E:az->aA->Prop),ds[i]?=aa d->St i s.heap->RL w g s.heap vs eQ->g.iT s.heap->(∀a∈own,a∈g.Z) ->
  (∀v s',R w g s'.heap v d->St (i+1) s'.heap->Kept own s s'->Q v s') ->
  aj (ar pw w) A (gk (ao I)) (λr s₁=>∃v,r=aa v/\aj (ar pw w) A (pG iY (ao I) v) (λz qw=>Q v qw) E s₁) E s
 done:∀(s:aA)(Q:Option az->aA->Prop)(E:az->aA->Prop),St ds.length s.heap->(∀s',Kept own s s'->Q ae s')->aj (ar pw w) A (gk (ao I)) Q E s
 self:∀i (s:aA) (Q:az->aA->Prop) (E:az->aA->Prop),St i s.heap->Q (ao I) s->aj (ar pw w) A (ig (ao I)) Q E s
section
variable{w:aU}{A:bK}{E:az->aA->Prop}{s:aA}{iY:aX}
theorem Xw(f:s.heap.get? d=W o)(g:o.cls= aZ c)(i:o.data= dU e)
(j:(AU.contains c)=ah)(k:mS iY=af)(h:b () s):
 aj (ar pw w) A (pG iY (ao d) v) b E s:=by
 show Xv (P:=λiY=>aj (ar pw w) A (pG iY (ao d) v) b E s) k (λz z=>aD h) λz z z=>?_
 induction v with
 |ref a=>
  show ai (qS f ?_)
  rwa[g,i]
  show aj _ A (if(AU.contains c&&e[0]?==aa (c6 a))=af then _ else _) b E s
  rwa[aL (by rwa[j,Ck];show fe)]
  show aD h
 |_=>show aD h
theorem Iter.AW{I:aR}{a y z:List aR}{n:Nat}{P:Nat->K->Prop}{m:Nat->b0->Prop}{B:List K}{j p:List D}(W:Walks pw w A I y z n P m)(H:n=p.length)(J:∀b∈z,b∈a)
(U:∀i (g:G) (h:b0) v d,p[i]?=aa d->P i v->RL w g h B j->R w g h v d)
(V:∀i h,m i h->∃o c K,h.get? I=aa o/\o.cls= aZ c/\o.data= dU K/\(AU.contains c)=ah)
(Y:mS iY=af):Iter w A iY I a y B j p m where
 frame:=W.frame
 item:=λi g s d Q E L r Z low hz h=>by
  have hi:i<n:=by rwa[H];show(cD.mp L).1
  show j5 (W.item i s _ E hi r λv M N t l u f=>⟨v,rfl,?_⟩)
  have k:Kept a s {s with heap:=M,toks:=N}:=⟨λb o x e=>u b o (λq=>x (J b q)) e,f,rfl,rfl⟩
  show kZ (V _ _ l) λo c K h1 h2 h3 h4=>?_
  show Xw h1 h2 h3 h4 Y (h v _ (U i g _ v d L t (Z.ext k.step.ext hz)) l k)
 done:=λs Q E r h=>by
  show j5 (W.done s _ E (H▸r) λM N u f=>h _ ⟨λb o x e=>u b o (λq=>x (J b q)) e,f,rfl,rfl⟩)
 self:=W.self
noncomputable def MM(e:aX):Bool:=e.ctorIdx==25
inductive Opened (tp:aX->Bool) (w:aU) (g:G) (s:aA) (ds:List D) (I:aR) (s₁:aA):Prop
 |mk (own fp:List aR) (vs:List az) (eQ:List D) (St:Nat->b0->Prop) (a:cu s s₁) (b:I∈own) (c:∀a∈own,s.heap.objs.size<=a/\a<s₁.heap.objs.size) (d:∀b∈fp,b∈own\/(¬g.Mt b/\b<s.heap.objs.size)) (e:RL w g s.heap vs eQ)
  (f:∀(A:bK) iY,A.handled=ae->tp iY=af->Iter w A iY I own fp vs eQ ds St) (i:St 0 s₁.heap) (j:ds.length<=2^20)
theorem Opened.el{f:aX->Bool}{P:Prop}(o:Opened f w g s ds c d)(k:∀own h i e j,cu s d->c∈own->(∀a∈own,s.heap.objs.size<=a/\a<d.heap.objs.size)->(∀b∈h,b∈own\/(¬g.Mt b/\b<s.heap.objs.size))->RL w g s.heap i e ->
 (∀(A:bK) iY,A.handled=N->f iY=U->Iter w A iY c own h i e ds j)->j 0 d.heap->ds.length<=2^20->P):P:=Opened.rec (motive:=λz=>P) k o
theorem RL.arr{c:Array K}{i:Nat}(r:RL w g h c.toList a)(e:a[i]?=W d)(f:c[i]?=W v):R w g h v d:=by
 show aV (r.get e) λj b r=>?_
 rw[jf,f]at b
 show L b▸r
theorem MN(l:s.heap.get? a=W (bO e m))(r:¬g.Mt a)(n:e.size<=2^20)(p:RL w g s.heap e.toList f)(t:∀I j,Opened mS w g s f I j->c (M I) j):
 V (Z pw w) A (ig (M a)) c E s:=by
 show CG (⟨_,l,rfl,m,rfl⟩:s.heap.IsList a e) (t _ _ ⟨[s.heap.objs.size],[s.heap.objs.size,a],e.toList,f,(λi h=>h.IsListIter s.heap.objs.size a i/\h.IsList a e),.push _ _,by show a7 ..,λb k=>?_,λb k=>?_,p,λL iY u x=>?_,?_,by rwa[<-p.f9];show n⟩)
 .rwa [bI.mp k];show⟨bG _,by show _<(s.heap.push _).objs.size;rwa[eP];show dP _⟩
 .rcases bB.mp k with rfl|k
  .show aY (a7 ..)
  .rwa [bI.mp k];show aW ⟨r,(dt l)⟩
 .show Iter.AW (En u s.heap.objs.size a (eU (dt l)) e) p.f9 (by grind) (λi g' h v d y z q=>?_) (λi h B=>?_) x
  .show q.arr y z
  .obtain ⟨o,H,J,K⟩:=B.1
   show x3 o _ _ ⟨H,J,K,by decide⟩
 .show ⟨⟨_,dQ _ rfl,rfl,rfl⟩,⟨_,dF _ l,rfl,m,rfl⟩⟩
theorem MO(l:s.heap.get? a=W (cP e m))(r:¬g.Mt a)(n:e.size<=2^20)(p:RL w g s.heap e.toList f)(t:∀I j,Opened mS w g s f I j->c (M I) j):
 V (Z pw w) A (ig (M a)) c E s:=by
 show yw (⟨_,l,rfl,m,rfl⟩:s.heap.IsTuple a e) (t _ _ ⟨[s.heap.objs.size],[s.heap.objs.size,a],e.toList,f,(λi h=>h.IsTupleIter s.heap.objs.size a i/\h.IsTuple a e),.push _ _,by show a7 ..,λb k=>?_,λb k=>?_,p,λL iY u x=>?_,?_,by rwa[<-p.f9];show n⟩)
 .rwa [bI.mp k];show⟨bG _,by show _<(s.heap.push _).objs.size;rwa[eP];show dP _⟩
 .rcases bB.mp k with rfl|k
  .show aY (a7 ..)
  .rwa [bI.mp k];show aW ⟨r,(dt l)⟩
 .show Iter.AW (Walks.tuple u s.heap.objs.size a (eU (dt l)) e) p.f9 (by grind) (λi g' h v d y z q=>?_) (λi h B=>?_) x
  .show q.arr y z
  .obtain ⟨o,H,J,K⟩:=B.1
   show x3 o _ _ ⟨H,J,K,by decide⟩
 .show ⟨⟨_,dQ _ rfl,rfl,rfl⟩,⟨_,dF _ l,rfl,m,rfl⟩⟩
theorem Xx(c:0<=i)(d:i<2^20):Kt 0 i 1=U/\zS 0 i 1=i:=by
 have e:zS 0 i 1=i:=by
  unfold zS
  simp
  lia
 show⟨?_,e⟩
 unfold Kt
 rwa[e]
 have f:∀k:Int,0<=k->k<2^20->Ku k=U:=λk a b=>by unfold Ku;simp;lia
 simp[f i c d,f 0 (je _) (je _),f 1 (je _) (je _)]
theorem Xy(m:0<=i)(r:i<2^20)(u:∀I c,Opened mS w g s ((bE i.toNat).map λk=> aq (k:Nat)) I c->a (ao I) c):
 V (ar pw w) A (b9 (aZ "range") [bL i t]) (λv c=>V (ar pw w) A (ig v) a E c) E s:=by
 show cR (Xx m r) λx n=>?_
 show call_range_1 (wpAny_pyIter_range (dQ _ rfl) x ?_)
 have f:(s.heap.push {cls:= aZ "range",data:= dU #[bL 0 s.toks,bL i t,bL 1 (s.toks+1)]}).objs.size=s.heap.objs.size+1:=eP ..
 show u _ _ ⟨[s.heap.objs.size+1],[s.heap.objs.size+1],[],[],(λk h=>IsRangeIter h (s.heap.objs.size+1) (0+(k:Nat)*1) ((i.toNat:Int)-(k:Nat)) 1),?_,by rwa[f];show a7 ..,λb p=>?_,λb p=> aY (by assumption),.nil,λM iY y z=>?_,?_,by simp;show DJ ‹_›⟩
 .show ((cu.push s {cls:= aZ "range",data:= dU #[bL 0 s.toks,bL i t,bL 1 (s.toks+1)]}).toks (s.toks+1+1)).trans (.push _ _)
 .rwa [bI.mp p]
  show⟨gW _,?_⟩
  show _<(Heap.push _ _).objs.size
  rwa[eP,f];show dP _
 .rwa [f]
  show Iter.AW (Walks.range y (s.heap.objs.size+1) 0 1 i.toNat) (by simp) (by grind) (λk N h v d l B Z=>?_) (λk h H=>?_) z
  .show gu v B λP=>?_
   rw[dy]at l
   show ct d (ej.mp l) λj q=>?_
   obtain⟨J,e⟩:=cD.mp q
   rw[Je]at e
   clear q l;subst e
   have:(0:Int)+(k:Int)*1=(k:Int):=(Int.zero_add _).trans (Int.mul_one _)
   rwa[this];show .int _ _
  .show x3 _ _ _ ⟨H,rfl,rfl,by decide⟩
 .have:=dQ (s.heap.push {cls:= aZ "range",data:= dU #[bL 0 s.toks,bL i t,bL 1 (s.toks+1)]}) (o:={cls:= aZ "range_iterator",data:= dU #[c6 0,c6 (zS 0 i 1),c6 1]}) rfl
  rw[f,n]at this
  rwa[n]
  show IsRangeIter _ _ _ _ _
  have K:((i.toNat:Nat):Int)-((0:Nat):Int)=i:=(Int.sub_zero _).trans (pZ m)
  have L:(0:Int)+((0:Nat):Int)*1=0:=by rfl
  rwa[K,L]
  show this
theorem Xz(L:gJ x=af)(M:x.cps.size<=2^20)(N:∀I f,Opened mS w g s (x.cps.toList.map λc=> bl (jX [c])) I f->a (ao I) f):
 aj (ar pw w) A (ig (fU x t)) a E s:=by
 show wpAny_pyIter_strU (N _ _ ?_)
 have m:∀i (n:G) (h:b0) v d,(x.cps.toList.map λc=>bl (jX [c]))[i]?=aa d->SignAt x i v->RL w n h [] []->R w n h v d:=λi n h v d m P X=>by
  show nH P λc u H p=>?_;obtain rfl:=p
  rw[dy,jf,H]at m
  cases m
  show .str _ _ (Fi L (by intro c' J;simp at J;subst J;show cN (by simpa using H)))
 have e:∀(k:Nat->b0->Prop)(o:cC),k 0 (s.heap.push o)->(∀j:bK,j.handled=ae->Walks pw w j s.heap.objs.size [s.heap.objs.size] [s.heap.objs.size] x.cps.size (SignAt x) k) ->
  (∀i h,k i h->∃o c U,h.get? s.heap.objs.size=aa o/\o.cls= aZ c/\o.data= dU U/\(AU.contains c)=ah) ->
  Opened mS w g s (x.cps.toList.map λc=> bl (jX [c])) s.heap.objs.size {s with heap:=s.heap.push o}:=λk o V W Y=>
  ⟨[s.heap.objs.size],[s.heap.objs.size],[],[],k,.push _ _,a7 ..,λb q=>by
   rwa[bI.mp q];show⟨bG _,by show _<(s.heap.push _).objs.size;rwa[eP];show dP _⟩,λb q=> aY q,.nil,
   λj iY l Z=>Iter.AW (W j l) ((bN ..).symm) (by grind) m Y Z,V,by simp_all⟩
 generalize K:x.cps.all (· <128)=r;induction r
 .show e (λi h=>h.IsStrIter s.heap.objs.size "str_iterator" x t i) _ (by simp only[strIterType,K];show⟨_,dQ _ rfl,rfl,rfl⟩) (λj l=>Walks.strWide l _ x t) λi h ⟨o,y,z,B⟩=>x3 o _ _ ⟨y,z,B,by decide⟩
 .show e (λi h=>h.IsStrIter s.heap.objs.size "str_ascii_iterator" x t i) _ (by simp only[strIterType,K];show⟨_,dQ _ rfl,rfl,rfl⟩) (λj l=>Walks.strAscii l _ x t) λi h ⟨o,y,z,B⟩=>x3 o _ _ ⟨y,z,B,by decide⟩
end
noncomputable def AX:aX:= fE jU jU
section
variable{w:aU}{A:bK}{E:az->aA->Prop}{s:aA}{g:G}
theorem Kept.refl(own:List aR)(s:H):Kept own s s:=⟨λz z z e=>e,bG _,rfl,rfl⟩
theorem Kept.trans{own:List aR}(x:Kept own s s₁)(y:Kept own s₁ a):Kept own s a:=⟨λb o c e=>y.keep b o c (x.keep b o c e),P x.size y.size,y.gens.trans x.gens,y.os.trans x.os⟩
theorem RL.uC{e:List aR}(k:Kept e s b)(f:∀a∈e,a∈g.Z)(r:RL w g s.heap c d):RL w g b.heap c d:=r.ext k.step.ext f
theorem XA{own K:List aR}{u:Nat->b0->Prop}(W:Iter w A AX b own K f d c u)(x:∀a∈own,a∈g.Z)(n:Nat):
 ∀(i:Nat)(s:aA)(Q:List az->aA->Prop),i+n<=c.length->u i s.heap->RL w g s.heap f d->g.iT s.heap ->
  (∀y t,RL w g t.heap y ((c.drop i).take n)->u (i+n) t.heap->Kept own s t->Q y t)->V (Z pw w) A (draw (ao b) n) Q E s:=by
 induction n with
 |zero=>
  intro i s Q Y z Y Y h
  show V _ _ (bx []) Q E s
  show aD (h [] s (kz _) z (.refl ..))
 |succ n ih=>
  intro i s Q B z H o h
  have p:i<c.length:=bY (ew ..) B
  show V _ _ (gk (ao b)>>=_) Q E s
  show ai (ed (W.item i g s c[i] (λv j=>V (Z pw w) A (do return v::(<-ie [v] (draw (ao b) n))) Q E j) E (dn p) z H o x λv j r l k=>?_) (λr j L=>?_) λY Y e=>e)
  .show ai (cU (ih (i+1) j _ (aC (bC (kT ..)) B) l (H.uC k x) (λa M=>bg (o a M) k.size) λy q N m J=>aD ?_))
   have P:(c.drop i).take (n+1)=c[i]::(c.drop (i+1)).take n:=![vO p,List.take_succ_cons]
   show h _ q ?_ (by rwa[show i+(n+1)=i+1+n from(kT ..).symm];show m) (k.trans J)
   rwa[P];show .cons (r.ext J.step.ext x) N
  .show ee r L λv U=>?_
   have:(pG AX (ao b) v>>=λY=>(do return v::(<-ie [v] (draw (ao b) n)):eT (List az)))=(do return v::(<-ie [v] (draw (ao b) n))):=by
    show(bx ()>>=λY=>_)=_
    rwa[zT]
   show V _ _ (do return v::(<-ie [v] (draw (ao b) n))) Q E j
   rwa[<-this]
   show ai U
theorem MP(I:Inv w g s d)(u:A.handled=ae)(K:∃T x,s.TypeIs v T/\mc (aZ T) "__iter__" =bx (aa (bM x)))
 (L:∀{y:az->aA->Prop},(∀I f,Opened mS w g s ds I f->y (ao I) f)->aj (ar pw w) A (ig v) y E s)
 (M:∀n p,cu s p->RL w g p.heap n ds->c n p):aj (ar pw w) A (unpackItems v ds.length ae) c E s:=by
 show jW (K) λT x N P=>?_
 show ai ?_
 show ai (pF N P ?_)
 show aD ?_
 dsimp only[vi,if_false]
 show ai (cU (L λJ f U=>?_))
 show U.el λown fp vs V St G hJ h Y Z W r z=>?_
 have B:∀a∈own,a∈(g.more own).Z:=λa j=>dT _ j
 show ai (cU (XA (g:=g.more own) (W A AX u rfl) B ds.length 0 f _ (bC (iK _)) r (Z.enter (own:=own) G λa j=>(h a j).1) (I.enter G (λa j=>(h a j).1) λa j=>(h a j).2).mO λn l t i k2=>?_))
 rw[tf,pP]at t
 rwa[aL (by rwa[t.length];show cq _)]
 rw[iK]at i
 show ai (cU ((W A AX u rfl).done l _ E i λm H=>?_))
 have k:=k2.trans H
 show aD (M n m ⟨λb o e=>k.keep b o (λq=>cq _ (bg (dt e) (h b q).1)) (G.keep b o e),aC G.size k.size,k.gens.trans G.gens,k.os.trans G.os⟩ ?_)
 show(t.uC H B).move (λX X X e=>e) (λa hm X q=>hm (lT.mpr (aY q))) λX X e=>e
variable{env:c8}{ns:List (bu×gF)}{σ:St}{cb:Bool}
theorem bo.kM(F:bo w g h env ns b):∀a∈fu cb env,a∈g.Z:=λa c=>F.qo a (Fe a c)
def FQ(cb:Bool)(ns:NS)(l:List Nat)(a:List aX):Bool:=(l.zip a).all λp=>(jM p.2).any λx=>jK cb ns p.1 x.1
theorem XB{l:List Nat}{a:List aX}{b:List K}{c:List D}{m:Fm}{g:G}{s:H}{Q:Unit->H->Prop}(n:l.length=a.length)(u:l.length=c.length)(y:FQ cb ns l a=U)
(I:Inv w g s σ)(F:bo w g s.heap env ns m)(k:RL w g s.heap b c)(h:∀f,Step (fu cb env) g s g f->Sat w g f.heap σ->bo w g f.heap env ns ((l.zip c).foldl (λr p=>r.set p.1 (aa p.2)) m)->Q () f):
 aj (ar pw w) A (yx ((lz a env).map (·.2)) b) Q E s:=by
 induction l generalizing a b c m g s Q with
 |nil=>
  rwa[ml.mp n.symm]
  clear k;induction b using bH<;>show aD (h s (.refl ..) I.sat F)
 |cons i l z=>
  induction a using bH with
  |nil=>show tN n
  |cons e a=>
   induction c using bH with
   |nil=>show tN u
   |cons d c=>
    obtain⟨v,b,rfl,B,k⟩:=k
    show bW (au y).1 λx H J=>by
     rwa[show e=_ from kJ H]
     show aj _ _ (do ie b (do jA x.2;qT env x.1 v);yx ((lz a env).map (·.2)) b) Q E s
     show ai (cU (ai (gU (vp (F.store I J B λf o q K=>?_)))))
     show z (gs n) (gs u) (au y).2 (I.go o q F.kM) K (k.ext o.ext F.kM) λL t j M=>h L (o.trans t) j M
theorem XC{l:List Nat}{a:List aX}(b:FQ cb ns l a=U)(h:l.length=a.length):(lz a env).length=a.length/\(lz a env).findIdx? (·.1)=N:=by
 induction l generalizing a with
 |nil=>rwa[ml.mp h.symm];show⟨rfl,rfl⟩
 |cons i l c=>
  induction a using bH with
  |nil=>show tN h
  |cons e a=>
   obtain⟨d,f⟩:=c (au b).2 (gs h)
   show bW (au b).1 λx j z=>by
    rwa[show e=_ from kJ j]
    show⟨aI (· +1) d,?_⟩
    show(((Y,_)::lz a env:List _)).findIdx? (·.1)=N
    rwa[rg,f];rfl
theorem lU(G:cu s a)(fr:List aR):Step fr g s g a:=⟨⟨rfl,⟨[],by simp,λz h=>aF h bc⟩,λb o z z e=>G.keep b o e,G.size⟩,G.gens,G.os⟩
theorem r6(I:Inv w g s σ)(G:cu s a):Sat w g a.heap σ:=I.sat.cA (fr:=[]) (λb o z e=>G.keep b o e) (λz h=>aF h bc)
theorem MQ{m e:Fm}(f:dY (jI l) d m=W e)(o:R w g s.heap v d):∃ds:List D,l.length=ds.length/\e=(l.zip ds).foldl (λr p=>r.set p.1 (W p.2)) m/\(∃T t,s.TypeIs v T/\mc (aZ T) "__iter__" =bx (W (bM t))) /\
 ∀{A:bK}{E:K->H->Prop}{q:K->H->Prop},(∀I b,Opened mS w g s ds I b->q (M I) b)->V (Z pw w) A (ig v) q E s:=by
 induction d using bJ<;>first|show nn f|skip
 .obtain ⟨a,u,n,rfl,h,i,c,j⟩:=o
  show⟨_,(iff f).1,(L (iff f).2).symm,(x2 "tuple" _ ⟨⟨_,h,rfl⟩,PySem.F.slot_tuple_iter.lookup⟩),λk=>MO h i c j k⟩
 .obtain ⟨a,u,n,rfl,h,i,c,j⟩:=o
  show⟨_,(iff f).1,(L (iff f).2).symm,(x2 "list" _ ⟨⟨_,h,rfl⟩,slot_list_iter.lookup⟩),λk=>MN h i c j k⟩
theorem FR{p f:Fm}(t:iW cb ns b e=U)(B:A.handled=N)(I:Inv w g s σ)(F:bo w g s.heap env ns p)(u:R w g s.heap v d)(y:dY b d p=W f)
(h:∀j,Step (fu cb env) g s g j->Sat w g j.heap σ->bo w g j.heap env ns f->a () j):aj (ar pw w) A (pH e env v) a E s:=by
 induction b with
 |var i=>
  cases y
  show bW t λx n k=>by
   rwa[kJ n]
   show aj _ _ (do jA x.2;qT env x.1 v) a E s
   show ai (gU (vp (F.store I k u h)))
 |tup l=>
  show bW t λq n k=>?_
  have c:=bX.mp (au (au k).2).1
  rwa[w7 n]
  show cR (XC (env:=env) ((au (au k).2).2) c) λH J=>?_
  revert h;show KO f (MQ y u) λP z K L h=>?_
  show ai (gU ?_)
  unfold unpack
  rwa[H,J,<-c,z]
  show ai (cU (MP I B K L λU j G r=>?_))
  show XB c z ((au (au k).2).2) (I.bz (lU G []) (r6 I G)) (F.step I (lU G [])) r λM o m N=>h M ((lU G _).trans o) m N
end
section
variable{w:aU}{A:bK}{E:az->aA->Prop}{s:aA}{g:G}{env:c8}{ns:NS}
theorem uD(env:c8){l:XS}:∀{b:List aX},eJ ns l b=U->∀a,(jz a (ib b env)).any (·.1)=Y:=by
 intro b h a
 induction l using XS.casesOn with
 |nil=>rwa[FF h];rfl
 |cons x l=>
  show FG (P:=λb=>(jz a (ib b env)).any (·.1)=Y) h λe r c d=>by
   rwa[xc c]
   show uD env d a
theorem FT{f:K}{a:List (Bool×eT K)}{Q:Args->H->Prop}(i:a.any (·.1)=Y)(h:V (Z pw w) A (oh a) (λd c=>Q ⟨d,[]⟩ c) E s):
 V (Z pw w) A (evalArgs f U a []) Q E s:=by
 induction a using bH with
 |nil=>
  show V _ A (oh []>>=_) Q E s
  show J (ed h (λd c q=>?_) λz z e=>e)
  show J (aD ?_)
  show cU ?_
  dsimp only[List.all_nil,if_true]
  show J (aD (J (aD (aD q))))
 |cons p rest=>
  obtain⟨b,x⟩:=p
  induction b with
  |true=>trivial
  |false=>show evalArgs_kw rfl (ed h (λd c q=>aD q) λz z e=>e)
theorem MR(m:∀a,f≠ M a)(j:eJ ns l d=U) 
(h:aj (ar pw w) A (oh (jz c (ib d env))) (λk i=>aj (ar pw w) A (b9 f (first++k) []) b E i) E s):
 aj (ar pw w) A (yy c f first (jz c (ib d env)) (vq c (vr [] env))) b E s:=by
 show DF (P:=λz=>True) ?_ (λz z=>⟨.machine,aW (aY rfl),λA b E s z n=>?_⟩) (FT (uD env j c) (ed h (λk i q=>⟨trivial,q⟩) λz z e=>e))
 .rwa [uD env j c];rfl
 .skip
  clear h;induction f<;>first|show aD n|show aF rfl (m _)
theorem FU{f:Nat}(k:keepIn (KK w.params) (M f)=U)(i:eJ ns l c=U) 
(h:aj (ar pw w) A (oh (jz b (ib c env))) (λj d=>(KK w.params).In d.heap/\aj (ar pw w) A (b9 (ao f) (first++j) []) a E d) E s):
 aj (ar pw w) A (yy b (ao f) first (jz b (ib c env)) (vq b (vr [] env))) a E s:=by
 show DF (P:=(KK w.params).In) ?_ (λh X=>keeps_K k h X) (FT (uD env i b) (ed h (λj d q=>q) λz z e=>e))
 rwa[uD env i b];rfl
end
noncomputable def MT:It->aX->Bool
 |.enum _=>MM
 |_=>mS
def jo(w:aU)(n:Nat)(h:It):Prop:=∀(e:aX)(i:NS),kK i h e=U->∀{d:c8}{j:Fm}{g:G}{s:H}{k f:St}{l:List D}{A:bK}{Q:K->H->Prop}{E:K->H->Prop},
 Inv w g s k->bo w g s.heap d i j->eK n A->fJ tb (run n) h j k=W (l,f)->(∀I b a c,Step [] g s b a->Sat w b a.heap f->Opened (MT h) w b a l I c->Q (M I) c) ->
 V (Z pw w) A (bw e d) (λm a=>V (Z pw w) A (ig m) Q E a) E s
def qx(w:aU)(n:Nat)(l:XS):Prop:=∀(f:List aX)(h:NS),eJ h l f=U->∀{a:c8}{i:Fm}{g:G}{s:H}{j d:St}{b:Bool}{A:bK}{Q:Bool->H->Prop}{E:K->H->Prop},
 Inv w g s j->bo w g s.heap a h i->eK n A->oQ tb (run n) l i j=W (b,d)->(∀k e,Step [] g s k e->Sat w k e.heap d->Q b e) ->
 V (Z pw w) A (lJ f U λc r=>if r=U then do let m <-i6 c a (bw c a);bx (iR m)else bx (iR r)) Q E s
section
variable{w:aU}{n:Nat}
theorem FV{f:D->Option (List D)}{P:Prop}(h:(o.bind λr=>(f r.1).map λl=>(l,r.2))=W (b,a))(k:∀d,o=W (d,a)->f d=W b->P):P:=by
 obtain⟨⟨d,s⟩,e,h⟩:=e8.mp h
 show eG (h) λl i h=>?_
 show cR (cO h) λc g=>?_;clear h;obtain rfl:=c;obtain rfl:=g
 show k d e i
theorem MU(z:bA w n x):jo w n (dW x):=λe B h H P g s U K V A Q E I F L M i=>FV M λd y j=>
 z e B h I F L y λv k l m f p=>by
  clear y;induction d using bJ<;>first|show nn j|skip
  .obtain ⟨c,j⟩:=iff j
   rw[<-aH j]at i
   show ee v p λt ok=>?_;show Xz ok c λJ b o=>i J k l b m f o
  .rw [<-aH j]at i
   obtain⟨a,N,n,rfl,q,r,c,u⟩:=p;show MO q r c u λJ b o=>i J k l b m f o
  .rw [<-aH j]at i
   obtain⟨a,N,n,rfl,q,r,c,u⟩:=p;show MN q r c u λJ b o=>i J k l b m f o
theorem AY(J:bA w n x)(K:jN i b e=W a)(t:a5 i x a=U)(u:(b,f)∈k8){E:az->H->Prop}
(I:Inv w g s p)(F:bo w g s.heap j i o)(L:eK n h)(M:ev tb (run n) x o p=aa (d,l))(H:∀v r q,Step [] g s r q->Sat w r q.heap l->R w r q.heap v d->aj (ar pw w) h (b9 f [v] []) c E q):
 aj (ar pw w) h (bw e j) c E s:=by
 show Ey e (AF K) λy Y N P=>?_
 have U:∀a,f≠ ao a:=by
  have k:=bQ.mp (show(k8.all λm=>match m.2 with|.ref _=>ah|_=>af)=af from rfl) _ u
  intro a e;clear H u;subst e;show ff k
 have z:eJ i (aS x aT) [a]=af:=dN t rfl
 show yz (F.FJ I P u ?_)
 show MR U z ?_
 show vn (J a i t I F L M λv r q V B W=>?_) (xc t)
 show vm (H v r q V B W)
theorem MV(m:bA w n x):jo w n (nS x):=λe H h p K g s L q M A Q E b F r u k=>FV u λd y i=>bW h λa z h=>by
 induction d using bJ<;>first|show nn i|skip
 obtain⟨l,i⟩:=iff i
 rw[<-aH i]at k
 show AY m z h (f:= aZ "range") (aQ rfl) b F r y λv B s' st j rv=>by
  show gu v rv λt=>?_
  show Xy l.1 l.2 λJ c o=>k J B s' c st j o
theorem MW:qx w n aT:=λf i h a j g s k c b A Q E I F l d e=>by
 rwa[FF h]
 cases d
 show wpAny_tests_nil (e g s (.refl ..) I.sat)
theorem XD{f:List aX}{E:K->H->Prop}(h:a Y s):
 V (Z pw w) b (lJ f Y λc r=>if r=U then do let g <-i6 c d (bw c d);bx (iR g)else bx (iR r)) a E s:=by
 induction f with
 |nil=>show aD h
 |cons e r i=>rwa[ny];show J (aD i)
theorem XE(u:gN w n x)(K:qx w n l):qx w n (aS x l):=λv j h d W g s Y L b A Q E I F m y z=>
 FG (P:=λv=>aj (ar pw w) A (lJ v af λc r=>if r=af then do let M <-i6 c d (bw c d);bx (iR M)else bx (iR r)) Q E s) h λe r B N=>by
  rwa[ny]
  show oY y (λZ o k=>ai (ai (u e j B I F m o λH J f a=>aD (K r j N (I.bz f a) (F.step I f) m k λU V p i=>z U V (f.trans p) i))))
   λZ o k=>ai (ai (u e j B I F m o λH J f a=>aD (XD (by clear y;show cR (cO (aH k)) λq t=>?_;clear k;obtain rfl:=q;obtain rfl:=t;show z H J f a))))
end
noncomputable def gf(cells:List (bu×aR)):List (bu×gF)->List (bu×aR)->List (bu×aR)
 |[],a=>a
 |p::r,a=>if p.2== eW then gf cells r ((p.1,(cells.lookup p.1).getD 0)::a)else gf cells r a
theorem FW(h:(p.2== eW)=U):gf a (p::r) b=gf a r ((p.1,(a.lookup p.1).getD 0)::b):=aJ h
theorem FX(h:¬(p.2== eW)=U):gf a (p::r) b=gf a r b:=aL h
theorem XF(h:∀x k,(x,k)∈b.names->k= eW->∃c,env.cells.lookup x=W c):closureFor b env=bx (gf env.cells b.names []):=by
 have:∀(l:List (bu×gF)) (d:List (bu×aR)),(∀x k,(x,k)∈l->k= eW->∃c,env.cells.lookup x=W c) ->
  (lJ l d (λ(p:bu×gF) j=>match p with|(e,f)=>if(f== eW)=U then do let a <-cellOf env e;bx (iR ((e,a)::j))else bx (iR j)):eT (List (bu×aR)))=bx (gf env.cells l d):=by
  intro l
  induction l with
  |nil=>intro d z;rfl
  |cons p r q=>
   intro d m
   obtain⟨x,k⟩:=p
   rwa[ny]
   have n:=λa=>q a λy s t=>m y s (bq _ t)
   rwa[show gf env.cells ((x,k)::r) d=if k== eW then gf env.cells r ((x,(env.cells.lookup x).getD 0)::d)else gf env.cells r d from rfl]
   by_cases g:(k==eW)=U
   .show dM (m x k (a7 ..) (bX.mp g)) λc o=>?_
    have i:cellOf env x=bx c:=by unfold cellOf;rwa[o]
    simp only[g,if_true,i,zT,o,qP]
    show n _
   .simp only [g,if_false,vi,zT]
    show n _
 have:=this b.names [] h
 rwa[<-this]
 show bind_pure _
theorem MX :∀{acc:List (bu×aR)} {p:bu×aR},p∈gf cells l acc->p∈acc\/(p.1,eW)∈l/\p.2=(cells.lookup p.1).getD 0:=by
 induction l with
 |nil=>show aY
 |cons q r b=>
  intro acc p h
  by_cases a:(q.2==eW)=U
  .rw [FW a]at h
   show(b h).elim (λh=>(bB.mp h).elim (λe=>?_) aY) λh=> aW ⟨bq _ h.1,h.2⟩
   rwa[e]
   show aW ⟨bB.mpr (aY (iQ rfl (bX.mp a).symm)),rfl⟩
  .rw [FX a]at h
   show(b h).imp_right λh=>⟨bq _ h.1,h.2⟩
theorem XG{cells:List (bu×aR)}{l:List (bu×gF)}:∀{acc:List (bu×aR)},(l.map (·.1)).Nodup->(acc.map (·.1)).Nodup->(∀p∈acc,p.1∉l.map (·.1))->((gf cells l acc).map (·.1)).Nodup:=by
 induction l with
 |nil=>showλz h z=>h
 |cons q r d=>
  intro acc b f c
  have b:=i9.mp b
  by_cases g:(q.2==eW)=U
  .rwa [FW g]
   show d b.2 (i9.mpr ⟨λu=>fW u λp a e=>c p a (by rwa[show p.1=q.1 from e];show a7),f⟩) λp a=>(bB.mp a).elim (λe=>by rwa[e];show b.1) λa u=>c p a (bq _ u)
  .rwa [FX g];show d b.2 f λp a u=>c p a (bq _ u)
theorem XH :∀{acc:List (bu×aR)},((x,eW)∈l->(x,(cells.lookup x).getD 0)∈gf cells l acc)/\∀p∈acc,p∈gf cells l acc:=by
 induction l with
 |nil=>show⟨λh=>aF h bc,λz h=>h⟩
 |cons q r a=>
  intro acc
  by_cases b:(q.2==eW)=U
  .rwa [FW b]
   show⟨λh=>(bB.mp h).elim (λe=>?_) a.1,λp c=>a.2 p (bq _ c)⟩
   rwa[<-e]
   show a.2 _ a7
  .rwa [FX b]
   show⟨λh=>a.1 ((bB.mp h).resolve_left λe=>b ![<-e]),a.2⟩
theorem FY{i:Nat}(h:(en a l)[i]?=W (x,k)):∃b,l[i]?=W (x,b)/\(k=b\/(b= eW/\k= fH)):=by
 unfold en at h
 rw[dy]at h
 obtain⟨⟨y,b⟩,c,e⟩:=ej.mp h
 dsimp only at e
 split at e
 .rename_i d
  simp only[eu,bX]at d
  clear h;cases e;show⟨b,c,aW ⟨d.1,rfl⟩⟩
 .cases e;show⟨_,c,aY rfl⟩
theorem XI(a l:NS):(en a l).map (·.1)=l.map (·.1):=by
 unfold en
 rwa[dK]
 show fN λp z=>?_
 obtain⟨x,k⟩:=p
 dsimp only[oH]
 split<;>rfl
noncomputable def iZ(a:List (Option Nat))(b:Fm):Fm:=a.map λo=>o.bind λi=>(b[i]?).bind id
noncomputable def uE(scope:ia)(a:List (bu×aR))(C:aR)(env:c8):c8:={ (newEnv scope C env.globals a env.qual N aN (W env) sT)with scope:=relabel scope env}
section
variable{w:aU}{g:G}{s s₁:aA}{σ:St}{env:c8}{ns:NS}{ρ:Fm}{scope:ia}{mp:List (Option Nat)}{C:aR}{own:List aR}
theorem r7(h:AG ns l mp=U){i:Nat}(b:l[i]?=W (x,k)):(k= eW/\∃j a,mp[i]?=W (W j)/\ns[j]?=W (x,a)/\(a= fH\/a= eW))\/((k= .local\/k= DG)/\mp[i]?=W N):=by
 obtain⟨m,d⟩:∃m,mp[i]?=W m:=⟨_,dn (bX.mp (au h).1▸((cD.mp b).1))⟩
 have q:(match(generalizing:=false) k,m with
  |.free,W i=>(match(generalizing:=false) ns[i]? with|some (y,k)=>I (y=x)&&(k== fH||k== eW)|none=>Y)
  |.local,N=>U
  |.globalImplicit,N=>U
  |_,_=>Y)=U:=bQ.mp (au h).2 ((x,k),m) (cN (i:=i) (rh.mpr ⟨b,d⟩))
 induction m with
 |none=>clear b;induction k<;>first|show ff q|show aW ⟨aY rfl,d⟩|show aW ⟨aW rfl,d⟩
 |some j=>
  induction k<;>first|show ff q|skip
  have q:(match(generalizing:=false) ns[j]? with|some (y,k)=>I (y=x)&&(k== fH||k== eW)|none=>Y)=U:=q
  generalize e:ns[j]?=f;induction f with
  |none=>rw[e]at q;show ff q
  |some p=>
   rw[e]at q
   have c:=au q
   obtain⟨y,a⟩:=p
   clear b q;obtain rfl:y=x:=bS c.1
   show aY ⟨rfl,j,a,d,e,((iI ..).mp c.2).imp bX.mp bX.mp⟩
theorem XJ(F:bo w g s.heap env ns ρ):(relabel scope env).names=en ns scope.names:=by
 show fN λp z=>?_
 obtain⟨x,k⟩:=p
 have a:(env.scope.kind==lK)=U:=![F.kind]
 have b:env.kindOf x=ns.lookup x:=by unfold wi;rwa[F.names]
 simp only[a,b,Iv]
theorem bo.comp(l:mQ ns scope mp=af)(I:Inv w g s σ)(F:bo w g s.heap env ns ρ)(G:cu s s₁)(U:∀a∈own,s.heap.objs.size<=a)(V:C∈own)(hN:s₁.heap.Ns C λX=>ae):
 bo w (g.more own) s₁.heap (uE scope (gf env.cells scope.names []) C env) (en ns scope.names) (iZ mp ρ):=by
 have l:=au l
 have f:=l.2
 have A:(scope.names.map (·.1)).Nodup:=bS (au l.1).2
 have W:=XG (cells:=env.cells) (acc:=[]) A kU λX h=>aF h bc
 have Y:∀{a:gF}{P:Prop},(a= fH\/a= eW)->(a= .local\/a= DG)->P:=λp q=>p.elim (λp=>q.elim (λq=>lH (p.symm.trans q)) λq=>lH (p.symm.trans q)) λp=>q.elim (λq=>lH (p.symm.trans q)) λq=>lH (p.symm.trans q)
 have n:∀i x,scope.names[i]?=aa (x,eW)->∃j,∃r:gF,mp[i]?=aa (aa j)/\ns[j]?=aa (x,r)/\(r= fH\/r= eW):=λi x Q=>(r7 f Q).elim (·.2) λh=>Y (aW rfl) h.1
 have t:∀p∈gf env.cells scope.names [],p∈env.cells:=λp H=>(MX H).elim (λh=>aF h bc) λh=>by
  show(lD h.1).elim λi Q=>(n i _ Q).elim λj q=>q.elim λr q=>(F.cell j p.1 r q.2.1 q.2.2).elim λc q=>?_
  rwa[show p=(p.1,c)from iQ rfl (h.2.trans ![q.1])]
  show og q.1
 show⟨bX.mp (au l.1).1,XJ F,F.glob,F.bi,(bN ..).trans ((bX.mp (au f).1).symm.trans (bN ..).symm),by rwa[XI];show A,⟨_,hN,λi x d J K=>?_⟩,λi x k J K=>?_,List.Pairwise.imp_of_mem (R:=λx y=>x.1≠y.1) (λ{a b} ha hb L e=>L (name_of_addr F.apart (t a ha) (show(b.1,a.2)∈env.cells by rwa[e];show t b hb))) (Dl.mp W),dT _ V,λp H=>fG _ (F.zc p (t p H))⟩
 .show aV (FY J) λB m M=>?_
  have m:scope.names[i]?=aa (x,.local):=M.elim (λh=>h▸m) λh=>lH h.2
  show(r7 f m).elim (λh=>lH h.1) λh=>nn (aH ((dy.trans (aI (gj _) h.2)).symm.trans K))
 .show aV (FY J) λB m M=>?_
  have m:scope.names[i]?=aa (x,eW):=(r7 f m).elim (λh=>h.1▸m) λh=>M.elim (λe=>Y K (e▸h.1)) λe=>e.1▸m
  show(n i x m).elim λj q=>q.elim λr q=>(F.cell j x r q.2.1 q.2.2).elim λc u=>u.2.2.elim λvo z=>?_
  have Z:=(XH (cells:=env.cells) (acc:=[])).1 (cN m)
  rw[u.1]at Z
  show⟨c,lookup_mem W Z,λe=>cq _ (bg (I.jn _ ((show c=C from e)▸F.zc _ (og u.1))) (U _ V)),vo,z.1.elim λo h=>⟨o,G.keep _ _ h.1,h.2⟩,λd h8=>?_⟩
  show bU (show(ρ[j]?).bind id=aa d from aH ((dy.trans (aI (gj _) q.1)).symm.trans h8)) λa h9 N=>?_
  show aV (z.2 d (h9.trans (aI aa N))) λv hv rv=>⟨v,hv,rv.enter G U⟩
end
section
variable{A:bK}{E:az->aA->Prop}{R:km->aA->Prop}{s:aA}{w:aU}
def MY(w:aU)(A:bK)(R:km->H->Prop)(a:aX)(B:eT Unit)(b:c8)(P:H->Prop)(v:K)(c:H):Prop :=
 V (Z pw w) A (pH a b v) (λz d=>V (Z pw w) A B (λz f=>P f) (nh (Z pw w) A b λe g=>R (jS e) g) d) (nh (Z pw w) A b λe g=>R (jS e) g) c
noncomputable def r8(h:aX)(b:List vl)(i:ia)(d:d6)(e:Nat)(a:aX)(j:d6)(g f:K)(c:c8)(B:eT Unit):Prop :=
 compTurn (fV h b i d) e g f c=(do
  jA j
  match <-gk g with
  |none=>bx (nG fD)
  |some v=>
   pG a g v
   pH a c v
   B
   again (oA (fV h b i d) e g f c))
theorem XK{u:aX}{f:List vl}{y:ia}{g J:d6}{i:Nat}{b:aX}{l j:az}{c:c8}{B:eT Unit}(K:r8 u f y g i b J l j c B)(I:Nat->H->Prop)
(o:∀n s,I n s->aj (ar pw w) A (gk l) (λr a=>match r with
  |none=>R (fO fD) a
  |some v=>aj (ar pw w) A (pG b l v) (λZ a=>MY w A R b B c (λp=>∃m,m<n/\I m p) v a) (nh (ar pw w) A c λe z=>R (jS e) z) a) (nh (ar pw w) A c λe z=>R (jS e) z) s)
(n:Nat)(h:I n s):gm (ar pw w) A (oA (fV u f y g) i l j c) R s:=by
 show codeAny_loop rfl I (λn s L=>?_) n h
 show aj _ A ((compTurn (fV u f y g) i l j c).onRaise (λx=>do noteFrame x c;theTreesLotGoes x)) _ _ s
 show wpAny_noted ?_
 rwa[K]
 show ai (gU (ai (ed (o n s L) (λr a d=>?_) λZ Z k=>k)))
 induction r with
 |none=>show aD d
 |some v=>
  show ai (ed d (λZ a d=>?_) λZ Z k=>k)
  show ai (ed d (λZ Q q=>ai (ed q (λZ H t=>?_) λZ Z k=>k)) λZ Z k=>k)
  show aD ⟨rfl,t⟩
end
section
variable{w:aU}{g g':G}{s s':aA}{σ':St}
theorem MZ(c:Sat w g' h σ')(t:∀a∈b,a∈g'.Z)(j:p.1∈g'.Z/\p.2∈g'.Z)(f:p.1∉b/\p.2∉b)(r:OR w ((g'.less b).add p) h p o):
 Sat w ((g'.less b).add p) h (σ'++[o])/\R w ((g'.less b).add p) h (M p.1) (ak σ'.length):=by
 have A:∀a,¬g'.Mt a->a<h.objs.size->¬((g'.less b).add p).Mt a:=λa l s q=>by
  rcases uB.mp q with q|rfl|rfl
  .show l (oZ t q)
  .show l (aW j.1)
  .show l (aW j.2)
 have B:∀(n:Nat) q,g'.θ[n]?=W q->((g'.less b).add p).θ[n]?=W q:=λn q e=>by
  show(g'.θ++[p])[n]?=W q
  rwa[fB (cD.mp e).1];show e
 show⟨⟨?_,λn q Q u k=>?_,?_,λa H q=>?_⟩,?_⟩
 .show (σ'++[o]).length=(g'.θ++[p]).length
  simp[c.len]
 .have d:(g'.θ++[p])[n]?=W q:=u
  by_cases f:n<g'.θ.length
  .rw [fB f]at d
   rw[fB (by rwa[c.len];show f)]at k
   show(c.obj n q Q d k).move (λs s s e=>e) A B (λs e=>e) λs e=>e
  .have i:=(cD.mp d).1
   rw[cF]at i
   have:n=g'.θ.length:=ku (iL i) (fi f)
   clear i f;subst this
   rw[mn (bG _),jC]at d
   rw[<-c.len,mn (bG _),jC]at k
   clear u;cases d;cases k;show r
 .show (g'.θ++[p]).Pairwise _
  rwa[Dk]
  show⟨c.apart,by grind,λq v z m=>?_⟩
  rwa[bI.mp m]
  have x:=c.fz q.1 ⟨q,v,aY rfl⟩
  have y:=c.fz q.2 ⟨q,v,aW rfl⟩
  show⟨λe=>x (e▸j.1),λe=>x (e▸j.2),λe=>y (e▸j.1),λe=>y (e▸j.2)⟩
 .rcases FP.mp H with h|rfl|rfl
  .show c.fz a h (t a q)
  .show f.1 q
  .show f.2 q
 .show .obj (n:=σ'.length) (a:=p.1) (dx:=p.2) ?_
  show(g'.θ++[p])[σ'.length]?=W (p.1,p.2)
  rwa[c.len,mn (bG _),jC];rfl
theorem M0(x:Step [] g s (g'.less g.Z) s')(b:s.heap.objs.size<=p.1/\s.heap.objs.size<=p.2):Step [] g s ((g'.less g.Z).add p) s':=by
 obtain⟨⟨l,⟨a,e,c⟩,k,d⟩,f,i⟩:=x
 show⟨⟨rfl,⟨a++[p],?_,λq j=>?_⟩,k,d⟩,f,i⟩
 .show (g'.less g.Z).θ++[p]=_
  rwa[e,iM]
 .rcases d9.mp j with h|h
  .show c q h
  .rwa [bI.mp h];show b
end
section
variable{w:aU}{n:Nat}
structure XM (w:aU) (f:D->St->Option (List D×St)) (xd:NS) (pa:c8) (r9:Fm) (L:aR) (own:List aR) (vs:List az) (eQ ds out:List D) (Sf:Nat->b0->Prop) (FZ:G) (F8:aA) (σ':St) (i:Nat) (s:aA) (g:G) (σ:St) (us:Array az) (m:Nat) (pre post:List D):Prop where
 le:i<=ds.length
 st:Step (L::pa.locals::own) FZ F8 g s
 sat:Sat w g s.heap σ
 fm:bo w g s.heap pa xd r9
 it:Sf i s.heap
 rl:RL w g s.heap vs eQ
 acc:s.heap.get? L=aa (bO us m)
 ru:RL w g s.heap us.toList pre
 eq:out=pre++post
 go:lP f (ds.drop i) σ=aa (post,σ')
theorem bo.weaken{g:G}{h:b0}{b:c8}{p:NS}{e a:Fm}(F:bo w g h b p a)(t:e.length=a.length)(s:∀(j:Nat) d,e[j]?=W (W d)->a[j]?=W (W d)):bo w g h b p e where
 kind:=F.kind
 names:=F.names
 glob:=F.glob
 bi:=F.bi
 len:=t.trans F.len
 nd:=F.nd
 loc:=aV F.loc λm u r=>⟨m,u,λi x d f l=>r i x d f (s i d l)⟩
 cell:=λi x k f l=>k0 (F.cell i x k f l) λc v o q=>aV q λy A r=>⟨c,v,o,y,A,λd B=>r d (s i d B)⟩
 apart:=F.apart
 z:=F.z
 zc:=F.zc
theorem XN:∀(l:List (Nat×D)) (b:Fm),(∀p∈l,∀d,b[p.1]? ≠W (W d))->(l.foldl (λr p=>r.set p.1 (W p.2)) b).length=b.length/\∀(j:Nat) d,b[j]?=W (W d)->(l.foldl (λr p=>r.set p.1 (W p.2)) b)[j]?=W (W d)
 |[],b,_=>⟨rfl,λy y h=>h⟩
 |p::r,b,h=>by
  have m:∀q∈r,∀d,b[q.1]? ≠W (W d):=λq o=>h q (bq _ o)
  have c:∀(l:List (Nat×D)) (a:Fm),a.length=b.length->(∀(j:Nat) d,b[j]?=W (W d)->a[j]?=W (W d))->(∀q∈l,∀d,b[q.1]? ≠W (W d)) ->
   (l.foldl (λr p=>r.set p.1 (W p.2)) a).length=b.length/\∀(j:Nat) d,b[j]?=W (W d)->(l.foldl (λr p=>r.set p.1 (W p.2)) a)[j]?=W (W d):=by
   intro l
   induction l with
   |nil=>intro a f g y;show⟨f,g⟩
   |cons q l s=>
    intro a f g i
    show s (a.set q.1 (W q.2)) (by simpa using f) (λj d k=>?_) λz t=>i z (bq _ t)
    have:q.1≠j:=λe=>i q (a7 ..) d (e▸k)
    rwa[mq this];show g j d k
  show c (p::r) b rfl (λy y h=>h) h
theorem F9{a:NS}(h:jK Y a i x=U):a[i]?=W (x,.local):=by
 show aV (Ff h) λk e b=>?_
 rcases b with rfl|⟨h,z⟩
 .show e
 .show ff h
theorem M1{f c:Fm}(y:iW Y b a e=U)(g:∀(i:Nat) x d,b[i]?=W (x,NameKind.local)->f[i]? ≠W (W d))(s:dY a d f=W c):
 f.length=c.length/\∀(j:Nat) d,f[j]?=W (W d)->c[j]?=W (W d):=by
 induction a with
 |var i=>
  cases s
  show bW y λx w o=>⟨(mj ..).symm,λj d z=>by
   have:i≠j:=λq=>g i _ d (F9 o) (q▸z)
   rwa[mq this];show z⟩
 |tup l=>
  show bW y λq H o=>?_
  have m:=bX.mp (au (au o).2).1
  have t:∀k:List D,∀p∈l.zip k,∀d,f[p.1]? ≠W (W d):=λk p B d=>by
   obtain⟨i,A⟩:=lD (List.of_mem_zip B).1
   have u:=(cD.mp A).1
   have Q:(p.1,q.1[i]'(m▸u))∈l.zip q.1:=by
    show cN (i:=i) ?_
    rwa[rh]
    show⟨A,dn _⟩
   show bW (bQ.mp (au (au o).2).2 _ Q) λx w h=>g _ _ d (F9 h)
  have v:∀k:List D,W ((l.zip k).foldl (λr p=>r.set p.1 (W p.2)) f)=W c->f.length=c.length/\∀(j:Nat) d,f[j]?=W (W d)->c[j]?=W (W d):=λk e=>by
   have h:=XN (l.zip k) f (t k)
   rw[L e]at h
   show⟨h.1.symm,h.2⟩
  induction d using bJ<;>first|show nn s|show v _ (iff s).2
theorem XO(h:lP f (d::r) c=W (a,b)){P:Prop}(k:∀g e l,f d c=W (g,e)->lP f r e=W (l,b)->g++l=a->P):P:=by
 obtain⟨⟨g,e⟩,i,h⟩:=e8.mp h
 obtain⟨⟨l,j⟩,m,h⟩:=ej.mp h
 show k _ _ _ i ((cO h).2▸m) (cO h).1
def BodyOk(w:aU)(A:bK)(t:Tg)(B:eT Unit)(f:D->St->Option (List D×St))(h:NS)(a:c8)(l:Fm)(L:aR)(Z:List aR)(o:Nat):Prop :=
 ∀(d:D)(b:Fm)(g:G)(s:H)(q i:St)(r:Array K)(m:Nat)(c p:List D)(Q:Unit->H->Prop)(E:K->H->Prop),dY t d l=W b->f d q=W (p,i)->Inv w g s q->g.Z=Z->o<=s.heap.objs.size->bo w g s.heap a h b ->
  s.heap.get? L=W (bO r m)->RL w g s.heap r.toList c->c.length+p.length<=2^20 ->
  (∀k e j u,Step (L::a.locals::[]) g s k e->Sat w k e.heap i->bo w k e.heap a h b->e.heap.get? L=W (bO j u)->RL w k e.heap j.toList (c++p)->Q () e)->V (ar pw w) A B Q E s
theorem Ga{A:bK}{I L:aR}{own fp:List aR}{R:km->H->Prop}{B:eT Unit} 
(ht:iW ah y tg tE=af)(hr:eK n A)(W:Iter w A tE I own fp vs eQ ds Sf)(hT:r8 el gens sc pos dep tE ip (ao I) (ao L) h B)(hB:BodyOk w A tg B f y h x L t.Z u.heap.objs.size)
(hf:∀d σ r,f d σ=aa r->∃M,dY tg d x=aa M)(Gb:∀d M,dY tg d x=aa M->x.length=M.length/\∀(j:Nat) d,x[j]?=aa (aa d)->M[j]?=aa (aa d))
(hz:∀a∈own,a∈t.Z)(hL:L∈t.Z)(V:L∉own)(Y:L≠h.locals)(Gd:h.locals∉own)(pb:∀b∈fp,b∈own\/(¬t.Mt b/\b<u.heap.objs.size))(I0:Inv w t u M3)(F0:bo w t u.heap h y x)(lV:Sf 0 u.heap)(Ge:RL w t u.heap vs eQ)
(J:∀p∈h.cells,p.2∉own/\p.2≠L)(nY:u.heap.get? L=aa (bO M4 m0))(XQ:RL w t u.heap M4.toList pre₀)(hl:(pre₀++out).length<=2^20)(hv:lP f ds M3=aa (out,σ'))
(hR:∀g' s' us m,Step (L::h.locals::own) t u g' s'->Sat w g' s'.heap σ'->bo w g' s'.heap h y x->s'.heap.get? L=aa (bO us m)->RL w g' s'.heap us.toList (pre₀++out)->R (fO fD) s'):
 gm (ar pw w) A (oA (fV el gens sc pos) dep (ao I) (ao L) h) R u:=by
 have jH:∀a∈L::h.locals::own,a∈t.Z:=λa ha=>by
  clear hR hB Y V J hT nY;rcases bB.mp ha with rfl|ha
  .show hL
  rcases bB.mp ha with rfl|ha
  .show F0.z
  .show hz a ha
 show XK hT (λk s=>∃i,i+k=ds.length+1/\∃g σ us m N post,XM w f y h x L own vs eQ ds (pre₀++out) Sf t u σ' i s g σ us m N post) ?_ (ds.length+1)
  ⟨0,iK _,t,M3,M4,m0,pre₀,out,⟨cQ _,.refl ..,I0.sat,F0,lV,Ge,nY,XQ,rfl,by assumption⟩⟩
 rintro k s ⟨i,hk,g,σ,us,m,N,post,c⟩
 have I1:Inv w g s σ:=I0.go c.st c.sat jH
 have K:∀a∈own,a∈g.Z:=λa ha=>by rwa[c.st.ext.z];show hz a ha
 have AZ:L∈g.Z:=by rwa[c.st.ext.z];show hL
 have M5:∀a∈L::h.locals::own,a∈g.Z:=λa ha=>by rwa[c.st.ext.z];show jH a ha
 have xe:∀(j:Nat)(fr:List aR)(eo:G)(Q:aA)(M6:G)(H:aA),Step (L::h.locals::own) t u eo Q->(∀a,eo.Ft a->a∉eo.Z)->Step fr eo Q M6 H->(∀a∈fr,a=L\/a=h.locals)->Sf j Q.heap->Sf j H.heap:=λj fr eo Q M6 H x1 fz x2 xf hs=>by
  show W.frame j _ _ hs λb hb o e=>?_
  have Gf:b∈own->¬eo.Ft b/\b∉fr:=λq=>⟨λf=>fz b f (by rwa[x1.ext.z];show hz b q),λf=>by
   clear x1 jH Y J hT e c AZ hR hB M5 hL nY hb;rcases xf b f with rfl|rfl
   .show V q
   .show Gd q⟩
  rcases pb b hb with q|⟨q1,q2⟩
  .show x2.ext.keep b o (Gf q).1 (Gf q).2 e
  .have uF:¬eo.Mt b:=λq=>(x1.ext.mt q).elim q1 λz=>cq _ (bg q2 z)
   show x2.ext.keep b o (λf=>uF (aY f)) (λf=>uF (aW ?_)) e
   rwa[x1.ext.z]
   clear x1 jH Y J hT e c AZ hR Gf hB M5 q1 V q2 nY hb uF;rcases xf b f with rfl|rfl
   .show hL
   .show F0.z
 by_cases nZ:i<ds.length
 .have hd:ds[i]?=aa ds[i]:=dn nZ
  have mT:=c.go
  rw[vO nZ]at mT
  show XO mT λys σ2 l M7 XR M8=>?_
  show dM (hf _ _ _ M7) λM hb=>?_
  show ed (W.item i g s ds[i] (MY w A R tE B h _) _ hd c.it c.rl I1.mO K λv Q rv XU U=>?_) (λr Q Gg=>by show ee r Gg λv hw=>?_;show hw) λX X e=>e
  have A0:Step (L::h.locals::own) g s g Q:=(U.step).weaken λa ha=>bq _ (bq _ ha)
  have Z:∀b o,b∉own->s.heap.get? b=aa o->Q.heap.get? b=aa o:=U.keep
  have XW:Sat w g Q.heap σ:=I1.sat.cA Z K
  have Gh:∀a∈Pq.own h,a∉own/\a≠L:=λa ha=>by
   rcases bB.mp ha with rfl|ha
   .show ⟨Gd,λq=>Y q.symm⟩
   .show ct a (b3.mp ha) λp hp=>?_;show J p hp
  have F1:bo w g Q.heap h y x:=c.fm.ext I1.sat.fz U.step.ext K λa ha=>(Gh a ha).1
  have A1:Inv w g Q σ:=I1.go U.step XW K
  have XX:Q.heap.get? L=aa (bO us m):=Z _ _ V c.acc
  have M9:=Gb _ _ hb
  show FR ht hr.hh A1 F1 rv hb λH P XY F2=>?_
  have Gi:∀a∈fu ah h,a=h.locals:=λa ha=>by simpa[fu]using ha
  have I2:Inv w g H σ:=A1.go P XY F1.kM
  have XZ:Step (L::h.locals::own) g Q g H:=P.weaken λa ha=>by rwa[Gi a ha];show bq _ (a7 ..)
  have X0:Sf (i+1) H.heap:=xe (i+1) _ g Q g H (c.st.trans A0) A1.sat.fz P (λa ha=> aW (Gi a ha)) XU
  have X1:H.heap.get? L=aa (bO us m):=P.ext.keep _ _ (λf=>A1.sat.fz L f AZ) (λq=>Y (Gi L q)) XX
  have Na:∀a∈fu ah h,a∈g.Z:=F1.kM
  have Gj:RL w g H.heap us.toList N:=(c.ru.ext U.step.ext K).ext P.ext Na
  have X2:RL w g H.heap vs eQ:=(c.rl.ext U.step.ext K).ext P.ext Na
  have Gk:=(c.st.trans A0).trans XZ
  have hlen:N.length+ys.length<=2^20:=by
   rw[c.eq,<-M8,cF,cF,<-sX]at hl
   show aC (ew ..) hl
  show hB ds[i] M g H σ σ2 us m N ys _ _ hb M7 I2 c.st.ext.z Gk.ext.size F2 X1 Gj hlen λg4 s4 Gl m' Gm uG F4 X3 X4=>?_
  have Gn:∀a∈L::h.locals::[],a=L\/a=h.locals:=λa ha=>by simpa using ha
  have X5:∀a∈L::h.locals::[],a∈g.Z:=λa ha=>(Gn a ha).elim (λe=>e▸AZ) λe=>e▸F2.z
  have X6:Step (L::h.locals::own) g H g4 s4:=Gm.weaken λa ha=>(Gn a ha).elim (λe=>dT _ ‹_›) λe=>dT _ ‹_›
  show⟨ds.length-i,KI hk nZ,i+1,KJ nZ,g4,σ2,Gl,m',N++ys,l,⟨nZ,Gk.trans X6,uG,F4.weaken M9.1 M9.2,?_,?_,X3,X4,?_,XR⟩⟩
  .show xe (i+1) _ g H g4 s4 Gk I2.sat.fz Gm Gn X0
  .show X2.ext Gm.ext X5
  .rwa [c.eq,<-M8,iM]
 .have:i=ds.length:=ku c.le (fi nZ)
  clear hk nZ;subst this
  have mT:=c.go
  rw[Dm]at mT
  clear hv;show cR (cO (aH mT)) λgO mU=>?_;clear mT;obtain rfl:=gO;obtain rfl:=mU
  show W.done s _ _ c.it λs' U=>?_
  have A0:Step (L::h.locals::own) g s g s':=(U.step).weaken λa ha=>bq _ (bq _ ha)
  have Gh:∀a∈Pq.own h,a∉own:=λa ha=>by
   rcases bB.mp ha with rfl|ha
   .show Gd
   .show ct a (b3.mp ha) λp hp=>?_;show(J p hp).1
  show hR g s' us m (c.st.trans A0) (I1.sat.cA U.keep K) (c.fm.ext I1.sat.fz U.step.ext K Gh) (U.keep _ _ V c.acc) ?_
  have:=c.eq
  rw[eM]at this
  rwa[this]
  show c.ru.ext U.step.ext K
end
theorem Gp(h:kK b a e=U)(x:K):CH e env x=bx x:=by
 induction e using jE<;>first|rfl|skip
 exfalso
 induction a using Am with
 |val y=>show AO h (n:=7) (by clear h;induction y using rR<;>rfl) rfl
 |range y=>show ff h
 |enum y=>show ff h
theorem xg(h:iW c f d e=U)(g:k9 b d=U):MT b e=U:=by
 induction d with
 |var=>show bW h λz a z=>by rwa[kJ a];induction b using Am<;>first|rfl|show ff g
 |tup=>show bW h λz a z=>by rwa[w7 a];clear g;induction b using Am<;>rfl
theorem X7(h:mQ b a c=U):∀x∈a.names,x.2≠ fH:=λx d q=>by
 obtain⟨i,e⟩:=lD d
 rcases r7 (au h).2 e with⟨h,z⟩|⟨h,z⟩
 .show lH (q.symm.trans h)
 .show h.elim (λh=>lH (q.symm.trans h)) λh=>lH (q.symm.trans h)
theorem X8(h:mQ b a c=U):∀x∈a.names,x.2= .local->a.names.lookup x.1=W .local:=λx d q=>by
 obtain⟨i,e⟩:=lD d
 show q▸uh (bS (au (au h).1).2) e
theorem Nb(h:mQ a b c=U)(i:Nat)(x:bu)(d:D)(k:(en a b.names)[i]?=W (x,NameKind.local)):(iZ c e)[i]? ≠W (W d):=by
 show aV (FY k) λf l g=>?_
 have j:f= .local:=by
  rcases g with g|⟨z,g⟩
  .show g.symm
  .contradiction
 clear g;subst j
 rcases r7 (au h).2 l with⟨h,z⟩|⟨z,m⟩
 .contradiction
 .unfold iZ
  rwa[dy,m]
  simp
theorem Step.Nc{g h:G}{s c d:H}{own i:List aR}(G:cu s c)(l:∀a∈own,s.heap.objs.size<=a)(x:Step (own++i) (g.more own) c h d):Step i g s (h.less g.Z) d where
 ext:={
  z:=rfl
  pre:=by
   show aV (x.ext.pre) λf e j=>?_
   show⟨f,e,λp k=>⟨P G.size (j p k).1,P G.size (j p k).2⟩⟩
  keep:=λb o m n e=>x.ext.keep b o m (λq=>(d9.mp q).elim (λq=>cq _ (bg (dt e) (l b q))) n) (G.keep b o e)
  size:=P G.size x.ext.size}
 gens:=x.gens.trans G.gens
 os:=x.os.trans G.os
theorem bo.leave{w:aU}{e:G}{h:b0}{b:c8}{s:NS}{t:Fm}{Z:List aR}(u:∀a∈Z,a∈e.Z)(F:bo w e h b s t)(y:∀a∈own b,a∈Z):bo w (e.less Z) h b s t where
 kind:=F.kind
 names:=F.names
 glob:=F.glob
 bi:=F.bi
 len:=F.len
 nd:=F.nd
 loc:=aV F.loc λm A r=>⟨m,A,λi x d g j=>aV (r i x d g j) λv l n=>⟨v,l,n.leave u⟩⟩
 cell:=λi x k g j=>k0 (F.cell i x k g j) λc B o q=>aV q λQ H r=>⟨c,B,o,Q,H,λd I=>aV (r d I) λv l n=>⟨v,l,n.leave u⟩⟩
 apart:=F.apart
 z:=y _ (a7 ..)
 zc:=λp J=>y _ (bq _ (ij (f:=(·.2)) J))
theorem Nd(l:List D)(a:St):nP f l a=lP (λd a=>(f d a).map λr=>(r.1.toList,r.2)) l a:=by
 induction l generalizing a with
 |nil=>rfl
 |cons d r b=>
  show((f d a).bind _)=((f d a).map _).bind _
  cases f d a with
  |none=>rfl
  |some p=>show aI (gj _) (b p.2)
section
variable{w:aU}{n:Nat}
def xh(n:Nat)(g:Tg)(c:XS)(e:X)(f:Fm)(d:D)(h:St):Option (Option D×St):=(dY g d f).bind λa=>(oQ tb (run n) c a h).bind λb=>if b.1 then(ev tb (run n) e a b.2).map λr=>(W r.1,r.2)else W (N,b.2)
def uH(n:Nat)(e:Tg)(a:XS)(b:X)(c:Fm)(d:D)(f:St):Option (List D×St):=(xh n e a b c d f).map λr=>(r.1.toList,r.2)
def A2(n:Nat)(g:Tg)(b:It)(c:Tg)(e:X)(f:Fm)(d:D)(h:St):Option (List D×St):=(dY g d f).bind λa=>(fJ tb (run n) b a h).bind λq=>lP (uH n c aT e a) q.1 q.2
theorem Nf(h:uH n c e f b d g=W r):∃i,dY c d b=W i :=
 eG h λz h z=>bU h λa h z=>⟨a,h⟩
theorem X9(h:A2 n c f e g b d i=W r):∃j,dY c d b=W j :=
 bU h λa h z=>⟨a,h⟩
noncomputable def sd(e:List aX)(f:aX)(b:K)(a:c8):eT Unit :=
 (lJ e U λc r=>if r=U then do let d <-i6 c a (bw c a);bx (iR d)else bx (iR r))>>=λd=>if d=U then(do let _ <-b9 (bM "list.append") [b,<-bw f a])else bx ()
theorem Yb{f t i:aX}{g:List aX} :r8 f [⟨t,i,g,0⟩] d c 0 t i.pos e a b (sd g f a b):=by
 unfold r8 sd
 rwa[compTurn_list]
 show aI (_>>= ·) (funext λz=>aI (_>>= ·) (funext λr=>?_))
 induction r with
 |none=>rfl
 |some v=>
  show aI (_>>= ·) (funext λz=>aI (_>>= ·) (funext λz=>?_))
  rwa[bind_assoc]
  show aI (_>>= ·) (funext λh=>?_)
  induction h with
  |false=>rfl
  |true=>rfl
theorem Yc{f t i g h:aX} :r8 f [⟨t,i,[],0⟩,⟨g,h,[],0⟩] d c 1 g h.pos e a b (sd [] f a b):=rfl
noncomputable def xi(f:aX)(b:List vl)(g:ia)(c:d6)(d:aX)(e:K)(a:c8):eT Unit:=do
 let x <-bw d a
 jA d.pos
 let x <-CH d a x
 let _ <-runOwn (zz (fV f b g c) 1 (<-ie [x] (ig x)) e a) a
theorem Yd{h t i j g:aX} :r8 h [⟨t,i,[],0⟩,⟨j,g,[],0⟩] e c 0 t i.pos f d a (xi h [⟨t,i,[],0⟩,⟨j,g,[],0⟩] e c g d a):=by
 unfold r8 xi
 show iP (b:=jA i.pos>>=λz=>gk f>>=λr=>match r with
  |none=>bx (nG fD)
  |some v=>pG t f v>>=λz=>pH t a v>>=λz=>bw g a>>=λx=>jA g.pos>>=λz=>CH g a x>>=λx=>ie [x] (ig x)>>=λy=>
   runOwn (zz (fV h [⟨t,i,[],0⟩,⟨j,g,[],0⟩] e c) 1 y d a) a>>=λz=>again (oA (fV h [⟨t,i,[],0⟩,⟨j,g,[],0⟩] e c) 0 f d a)) rfl ?_
 show aI (_>>= ·) (funext λz=>aI (_>>= ·) (funext λr=>?_))
 induction r with
 |none=>rfl
 |some v=>
  simp only[bind_assoc,zT]
theorem Ng(hi:qx w n p)(he:bA w n r)(hf:eJ k p t=U)(Gq:a5 k r v=U)(hr:eK n c)
(uI:i∈j)(xj:∀a∈own l,a≠i):BodyOk w c z (sd t v (ao i) l) (uH n z p r u) k l u i j top:=λd ρ' g s σ σ' us m N ys Q E hb J I hZ X F hl ru W hQ=>by
 obtain⟨⟨y,σy⟩,Gr,hy⟩:=ej.mp J
 obtain⟨rfl,rfl⟩:=cO hy
 clear J
 show bU (Gr) λA3 xl J=>?_
 revert J;show iw (aH (hb.symm.trans xl)) λJ=>?_
 obtain⟨⟨b,σ3⟩,e1,J⟩:=e8.mp J
 unfold sd
 induction b with
 |true=>
  obtain⟨⟨dd,Ye⟩,e2,e3⟩:=ej.mp J
  clear hy J Gr;show cR (cO e3) λgO mU=>?_;clear e3 J;obtain rfl:=gO;obtain rfl:=mU
  show ai (hi t k hf I F hr e1 λg3 s3 B K=>?_)
  have I3:=I.bz B K
  rwa[aJ rfl]
  show ai (he v k Gq I3 (F.step I B) hr e2 λx M Y P uG rx=>?_)
  have H:Step [] g s M Y:=B.trans P
  have Gs:i∈M.Z:=by rwa[H.ext.z];show(hZ▸uI:i∈g.Z)
  have U:Y.heap.get? i=aa (bO us m):=H.ext.keep _ _ (λf=>I.sat.fz i f (hZ▸uI:i∈g.Z)) (λh=>aF h bc) hl
  have A4:us.size=N.length:=by have:=ru.length;simpa using this
  have agx:N.length+1<=2^20:=W
  show ai (Lk U (by lia) λh' n' hs' pd=>?_)
  have kk:∀b o,b∉[i]->Y.heap.get? b=aa o->h'.get? b=aa o:=λb o hb e=>hs'.extBut b o (λq=>‹¬_› (bB.mpr (aY q))) e
  have V:∀a∈[i],a∈M.Z:=by simpa using Gs
  have se:Step [i] M Y M {Y with heap:=h'}:=Step.cA (dr:=Y.drawn) (tk:=Y.toks) kk (bC hs'.1.symm)
  have r5:RL w M h' (us.push x).toList (N++[dd]):=by
   rwa[tD]
   show((ru.ext H.ext (λX h=>aF h bc)).cA kk V).append (.cons (rx.cA kk V) .nil)
  show aD (hQ M _ (us.push x) n' (H.nil.trans (se.weaken (by simp))) ((I3.bz P uG).sat.cA kk V:Sat w M h' Ye) (((F.step I B).step I3 P:bo w M Y.heap l k ρ').ext (I3.bz P uG).sat.fz se.ext V λa ha q=>(xj a ha) (bI.mp q):bo w M h' l k ρ') pd r5)
 |false=>
  clear hy Gr W;show cR (cO (aH J)) λgO mU=>?_;clear J;obtain rfl:=gO;obtain rfl:=mU
  show ai (hi t k hf I F hr e1 λg3 s3 B K=>?_)
  rwa[aL fe]
  show aD (hQ g3 s3 us m B.nil K (F.step I B) (B.ext.keep _ _ (λf=>I.sat.fz i f (hZ▸uI:i∈g.Z)) (λh=>aF h bc) hl) ?_)
  show RL w g3 s3.heap us.toList (N++[])
  rwa[eM]
  show ru.ext B.ext (λX h=>aF h bc)
structure LoopAt (w:aU) (A:bK) (t:aX) (J:aR) (own fp:List aR) (vs:List az) (eQ ds:List D) (Sf:Nat->b0->Prop) (L:aR) (mV:G) (xm:aA) (pa:c8) (xd:NS) (r9:Fm) (σ1:St):Prop where
 W:Iter w A t J own fp vs eQ ds Sf
 z:∀a∈own,a∈mV.Z
 Lz:L∈mV.Z
 Lo:L∉own
 LC:L≠pa.locals
 Co:pa.locals∉own
 fp:∀b∈fp,b∈own\/(¬mV.Mt b/\b<xm.heap.objs.size)
 I:Inv w mV xm σ1
 F:bo w mV xm.heap pa xd r9
 st:Sf 0 xm.heap
 rl:RL w mV xm.heap vs eQ
 cells:∀p∈pa.cells,p.2∉own/\p.2≠L
theorem LoopAt.env{own o:List aR}(x:LoopAt w c t b own o k h ds l d f g e i j σ1):∀a∈Pq.own e,a≠d:=λa m=>by
 rcases bB.mp m with rfl|m
 .show kY x.LC
 .show ct a (b3.mp m) λp q=>?_;show(x.cells p q).2
theorem Yg{R:km->H->Prop}{k i j:aX} 
(p:gm (ar pw w) a (oA (fV k [f,⟨i,j,[],0⟩] b d) 1 g e c) R s)
(h:aj (ar pw w) a (ig g) (λl m=>gm (ar pw w) a (oA (fV k [f,⟨i,j,[],0⟩] b d) 1 l e c) R m)
  (nh (ar pw w) a c λx m=>R (jS x) m) s):
 gm (ar pw w) a (zz (fV k [f,⟨i,j,[],0⟩] b d) 1 g e c) R s:=by
 show CI ?_
 show aj _ _ ((compStart (fV k [f,⟨i,j,[],0⟩] b d) 1 g e c).onRaise (λx=>do noteFrame x c;jA theWindowsPlace)) _ _ s
 show wpAny_notedAt ?_
 unfold compStart
 show aj _ _ (ask>>=_) _ _ s
 show ai (sR (wpAny_ite ?_))
 split
 .first
   |show ai (aD (aD (Eo rfl p)))
   |show wpAny_pure (And.intro rfl p)
 .first
   |show ai (iJ (ai (gU (ai (ed h (λl m o=>aD (Eo rfl o)) λz z x=>x)))))
   |(show wpAny_bind (wpAny_rule ?_);show wpAny _ _ (standAt j.pos>>=_) _ _ s;show wpAny_bind (wpAny_standAt (wpAny_bind (wpAny_mono h (λl m o=>wpAny_pure (And.intro rfl o)) λz z x=>x))))
theorem Yh{t i t2 i2 el:aX}{r9:Fm}(hit:jo w n tZ)(he:bA w n elt)(pg:k9 tZ v=U)(h1:kK u tZ i2=U)(ht:iW Y u v t2=U)(Gq:a5 u elt el=U)(hr:eK n c)
(Gb:∀d0 U,dY tg d0 r9=aa U->∀d N,dY v d U=aa N->U.length=N.length/\∀(j:Nat) d,U[j]?=aa (aa d)->N[j]?=aa (aa d))
(uI:k∈l)(xj:∀a∈own o,a≠k):BodyOk w c tg (xi el [⟨t,i,[],0⟩,⟨t2,i2,[],0⟩] sc pos i2 (ao k) o) (A2 n tg tZ v elt r9) u o r9 k l top:=λd N g s σ σ' Y m V ys Q E hb hF I hZ X F hl ru hlen hQ=>by
 show bU (hF) λA3 xl hF=>?_
 revert hF;show iw (aH (hb.symm.trans xl)) λhF=>?_
 obtain⟨⟨es,σ1⟩,e1,hF⟩:=e8.mp hF
 .unfold xi
  show ai (ed (hit i2 u h1 I F hr e1 λJ eo M K st sat op=>?_:aj (ar pw w) c (bw i2 o) (λxv M=>aj (ar pw w) c (ig xv) (λy K=>aj (ar pw w) c (runOwn (zz (fV el [⟨t,i,[],0⟩,⟨t2,i2,[],0⟩] sc pos) 1 y (ao k) o) o) (λX Yi=>Q () Yi) E K) E M) E s)
   (λx sx hx=>ai (gU (ai (by
    rwa[Gp h1]
    show aD (ai (cU (ed hx (λy sy hy=>ai (ed hy (λX sz hz=>aD hz) λX X e=>e)) λX X e=>e))))))) λX X e=>e)
  have F1:=F.step I st
  show op.el λH fp vs eQ Sf G hJ n0 pb rl W lV agy=>?_
  have ho:∀a∈H,M.heap.objs.size<=a:=λa P=>(n0 a P).1
  have W:=W c t2 hr.hh (xg ht pg)
  have low:∀a∈eo.Z,a∉H:=λa P q=>cq _ (bg ((I.bz st sat:Inv w eo M σ1).jn a P) (ho a q))
  have kN:k∈eo.Z:=by rwa[st.ext.z];show(hZ▸uI:k∈g.Z)
  have Gu:M.heap.get? k=aa (bO Y m):=st.ext.keep _ _ (λf=>I.sat.fz k f (hZ▸uI:k∈g.Z)) (λh=>aF h bc) hl
  have Gj:RL w (eo.more H) K.heap Y.toList V:=(ru.ext st.ext (λX h=>aF h bc)).enter G ho
  have loop:∀R:km->aA->Prop,(∀g' s' Y m,Step (k::o.locals::H) (eo.more H) K g' s'->Sat w g' s'.heap σ'->bo w g' s'.heap o u N->s'.heap.get? k=aa (bO Y m)->RL w g' s'.heap Y.toList (V++ys)->R (fO fD) s') ->
   gm (ar pw w) c (oA (fV el [⟨t,i,[],0⟩,⟨t2,i2,[],0⟩] sc pos) 1 (ao J) (ao k) o) R K:=λR hR=>
   Ga (n:=n) (f:=uH n v aT elt N) (B:=sd [] el (ao k) o) (ds:=es) (out:=ys) (pre₀:=V) ht hr W Yc (Ng MW he rfl Gq hr (fG _ kN) xj) (λd σ r h=>Nf h) (Gb d N hb)
    (λa P=>dT _ P) (fG _ kN) (low k kN) (λe=>xj o.locals (a7 ..) e.symm) (low _ F1.z)
    (λb hb=>by
     rcases pb b hb with q|⟨q1,q2⟩
     .show aY q
     .show aW ⟨λq=>(lT.mp q).elim q1 λz=>cq _ (bg q2 (ho b z)),bg q2 G.size⟩)
    ((I.bz st sat:Inv w eo M σ1).enter G ho λa P=>(n0 a P).2:Inv w (eo.more H) K σ1) (F1.enter G ho:bo w (eo.more H) K.heap o u N) lV (rl.enter G ho) (λp hp=>⟨low _ (F1.zc p hp),xj _ (bq _ (ij (f:=(·.2)) hp))⟩) (G.keep _ _ Gu) Gj (by simp_all) hF hR
  have fin:∀g' s' Y m,Step (k::o.locals::H) (eo.more H) K g' s'->Sat w g' s'.heap σ'->bo w g' s'.heap o u N->s'.heap.get? k=aa (bO Y m)->RL w g' s'.heap Y.toList (V++ys)->Q () s':=λg' s' Gl m' gP xn Fp Yj Yk=>by
   have Yl:Step (k::o.locals::[]) eo M (g'.less eo.Z) s':=Step.Nc (own:=H) G ho (gP.weaken λa P=>by simp only[bB,d9]at P |-;rcases P with h|h|h<;>(first|show aY ‹_›|simp[h]))
   show hQ (g'.less eo.Z) s' Gl m' (st.nil.trans Yl) (xn.leave (o5 gP:∀a∈eo.Z,a∈g'.Z)) (Fp.leave (o5 gP:∀a∈eo.Z,a∈g'.Z) F1.qo) Yj (Yk.leave (o5 gP:∀a∈eo.Z,a∈g'.Z))
  have key:=loop (λr s'=>match r with|.ok _=>Q () s'|.error e=>cameBackBy (ar pw w) c o E e s') fin
  show wpAny_runOwn (Yg key (W.self 0 K _ _ lV key))
end
noncomputable def Gv(w:aU)(g:G)(s:H)(a:Flow):Option D->Prop
 |none=>a= fD
 |some d=>∃v,a= il v/\R w g s.heap v d
def ph(w:aU)(n:Nat)(c:C):Prop:=∀(i:dj)(h:NS),Fy h c i=U->∀{a:c8}{j b:Fm}{g:G}{s:H}{k d:St}{r:Option D}{A:bK}{Q:Flow->H->Prop}{E:K->H->Prop},
 Inv w g s k->bo w g s.heap a h j->eK n A->ex tb (run n) c j k=W (r,b,d) ->
 (∀l f e,Step (fu U a) g s f e->Sat w f e.heap d->bo w f e.heap a h b->Gv w f e l r->Q l e)->V (Z pw w) A (exec i a) Q E s
def mW(w:aU)(n:Nat)(l:CS):Prop:=∀(h:List dj)(f:NS),mR f l h=U->∀{a:c8}{i b:Fm}{g:G}{s:H}{j c:St}{r:Option D}{A:bK}{Q:Flow->H->Prop}{E:K->H->Prop},
 Inv w g s j->bo w g s.heap a f i->eK n A->ba tb (run n) l i j=W (r,b,c) ->
 (∀k e d,Step (fu U a) g s e d->Sat w e d.heap c->bo w e d.heap a f b->Gv w e d k r->Q k d)->V (Z pw w) A (execs h a) Q E s
section
variable{w:aU}{n:Nat}
theorem three(h:(a,b,c)=(d,e,f)):a=d/\b=e/\c=f:=⟨(cO h).1,cO (cO h).2⟩
theorem Ym(h:mR a c7 l=U):l=[]:=kA.mp h
theorem Yn(h:mR a (cZ c l) b=U){P:List dj->Prop}(k:∀s r,Fy a c s=U->mR a l r=U->P (s::r)):P b:=by
 induction b using bH with
 |nil=>show ff h
 |cons s r=>show k s r (au h).1 (au h).2
theorem Gw{o:Out}(h:(o.bind λq=>rQ q k)=W (r,a,b)){P:Prop}(i:∀c f,o=W (N,c,f)->k c f=W (r,a,b)->P)(j:∀d,r=W d->o=W (r,a,b)->P):P:=by
 show bU (h) λq e h=>?_
 rcases Wr h with⟨l,g⟩|⟨rfl,d,g⟩
 .clear h;obtain⟨o,q⟩:=q;show i _ _ (l▸e) g
 .show j d g e
theorem Yo:mW w n c7:=λf i h a j b g s k c r A Q E I F l d e=>by
 rwa[Ym h]
 cases d
 show CJ (e fD g s (.refl ..) I.sat F rfl)
theorem Yp(u:ph w n c)(L:mW w n l):mW w n (cZ c l):=λx k h m ρ M g s σ N r A Q E I F o y z=>
 Yn (P:=λx=>aj (ar pw w) A (execs x m) Q E s) h λB rest H U=>Gw y
  (λV W Y Z=>wpAny_execs_cons (u B k H I F o Y λj J K b a p f=>by
   obtain rfl:=f
   show L rest k U (I.go b a F.kM) p o Z λj g2 s2 q i F2 t=>z j g2 s2 (b.trans q) i F2 t))
  λd hd e=>wpAny_execs_cons (u B k H I F o e λj J K b a p f=>by
   clear e y;subst hd
   show ee j f λv rv=>?_
   show z _ J K b a p ⟨v,rfl,rv⟩)
theorem Yq(j:bA w n x):ph w n (.ret x):=λa t h u N y g s P z r A Q E I F B k l=>by
 obtain⟨⟨d,H⟩,b,m⟩:=ej.mp k
 obtain⟨rfl,rfl,rfl⟩:=three m
 show bW h λq J h=>?_
 rwa[VD J]
 obtain⟨o,p⟩:=q
 induction o with
 |some e=>show wpAny_Return_some (j e t h I F B b λv K L a c M=>l _ K L a.nil c (F.step I a) ⟨v,rfl,M⟩)
 |none=>
  clear j;induction x using rR<;>first|show ff h|skip
  clear k m;show cR (cO (aH b)) λf i=>?_;clear b;obtain rfl:=f;obtain rfl:=i
  show wpAny_Return_none (l _ g s (.refl ..) I.sat F ⟨aN,rfl,.none⟩)
theorem Yr(x:gN w n c)(z:mW w n a)(B:mW w n b):ph w n (k7 c a b):=λP k h H U J g s V K r A Q E I F l j y=>by
 show bW h λq L h=>?_
 rwa[VE L]
 show oY j (λZ m j=>wpAny_If (x _ k (au h).1 I F l m λM N d e=>by
  show z _ k (au (au h).2).1 (I.bz d e) (F.step I d) l j λo p t i f u v=>y o p t (d.nil.trans i) f u v))
  λZ m j=>wpAny_If (x _ k (au h).1 I F l m λM N d e=>by
   show B _ k (au (au h).2).2 (I.bz d e) (F.step I d) l j λo p t i f u v=>y o p t (d.nil.trans i) f u v)
theorem Ys:ph w n .raise:=λe f h a i b g s j c r A Q E I F k d l=>nn d
theorem Yt(hc:gN w n c)(hb:mW w n b):ph w n (.wO c b):=λst u h x J K g s L M r A Q E I F B N hQ=>by
 show bW h λq hs h=>?_
 have H:=au (lq h).2
 rwa[VF hs,(lq h).1]
 show wpAny_While (codeAny_whileLoop (λk P=>∃U m o,Step (fu af x) g s U P/\Sat w U P.heap m/\bo w U P.heap x u o/\jk (ev tb (run n) c) (λJ L=>ba tb (run n) b J L) k o m=aa (r,K,M)) ?_ LF (x3 g L J ⟨.refl ..,I.sat,F,N⟩))
 rintro k s1 ⟨g1,m,o,l,y,z,f⟩
 have t:=I.go l y F.kM
 induction k using dS with
 |zero=>show nn f
 |succ k=>
  show oY f (λV W f=>hc _ u H.1 t z B W λg2 s2 a i=>by
   have I2:=t.bz a i
   show Gw f (λY Z e3 e4=>hb _ u H.2 I2 (z.step t a) B e3 λfl g3 s3 p j F3 hf=>by
    obtain rfl:=hf
    show⟨k,dP _,g3,Z,Y,(l.trans a.nil).trans p,j,F3,e4⟩)
    λd hd e=>hb _ u H.2 I2 (z.step t a) B e λfl g3 s3 p j F3 hf=>by
     clear f e N;subst hd
     show ee fl hf λv rv=>?_
     show hQ _ g3 s3 ((l.trans a.nil).trans p) j F3 ⟨v,rfl,rv⟩)
   λV W f=>hc _ u H.1 t z B W λg2 s2 a i=>by
    clear N;obtain⟨rfl,rfl,rfl⟩:=three (aH f)
    show CJ (hQ _ g2 s2 (l.trans a.nil) i (z.step t a) rfl)
end
section
variable{w:aU}{A:bK}{R:km->aA->Prop}{s:aA}
def Nh(w:aU)(A:bK)(R:km->H->Prop)(b:aX)(d:List dj)(c:c8)(P:H->Prop)(v:K)(g:H):Prop :=
 V (Z pw w) A (pH b c v) (λz h=>V (Z pw w) A (execs d c) (λf a=>match f with
  |.next|.cont=>P a
  |.brk=>R (fO fD) a
  |.ret v=>R (fO (il v)) a) (nh (Z pw w) A c λe i=>R (jS e) i) h) (nh (Z pw w) A c λe i=>R (jS e) i) g
theorem Yu{a:aX}{q:K}{g:List dj}{d:c8}(I:Nat->H->Prop)
(o:∀n s,I n s->aj (ar pw w) A (gk q) (λr i=>match r with
  |none=>R (fO fD) i
  |some v=>aj (ar pw w) A (pG a q v) (λz j=>Nh w A R a g d (λk=>∃m,m<n/\I m k) v j) (nh (ar pw w) A d λe t=>R (jS e) t) i) (nh (ar pw w) A d λe t=>R (jS e) t) s)
(n:Nat)(h:I n s):gm (ar pw w) A (.forLoop a q g [] d) R s:=by
 show codeAny_loop' rfl I (λn s u=>?_) n h
 show aj _ _ ((forTurn a q g [] d).onRaise (λx=>do noteFrame x d;theTreesLotGoes x)) _ _ s
 show wpAny_noted ?_
 simp only[forTurn]
 show ai (gU (ai (wpAny_onRaise (ed (o n s u) (λr i b=>?_) λz z l=>gU l))))
 induction r with
 |none=>show aD (aW ⟨rfl,codeAny_block (CJ b)⟩)
 |some v=>
  show ai (ed b (λz j b=>?_) λz z l=>l)
  show ai (ed b (λz j p=>ai (ed p (λf k c=>?_) λz z l=>l)) λz z l=>l)
  induction f with
  |next=>show aD (aY ⟨rfl,c⟩)
  |cont=>show aD (aY ⟨rfl,c⟩)
  |brk=>show aD c
  |ret v=>show aD c
end
structure Yv (w:aU) (ns:NS) (env:c8) (own:List aR) (vs:List az) (eQ ds:List D) (Sf:Nat->b0->Prop) (FZ:G) (F8:aA) (f:D->Fm->St->Option (Option D×Fm×St)) (res:Option D×Fm×St) (i:Nat) (s:aA) (g:G) (σ:St) (ρ:Fm):Prop where
 le:i<=ds.length
 st:Step (own++fu af env) FZ F8 g s
 sat:Sat w g s.heap σ
 fm:bo w g s.heap env ns ρ
 it:Sf i s.heap
 rl:RL w g s.heap vs eQ
 go:loopGo f (ds.drop i) ρ σ=aa res
section
variable{w:aU}{n:Nat}
theorem Yw(hit:jo w n l)(hb:mW w n b):ph w n (.loop m l b):=λst ns h H ρ ρ' g s σ σ' r A Q E I F hr hv hQ=>by
 show bW h λ⟨t,i,x,y,p⟩ hs h=>?_
 have h1:=(au (au (lq h).2).2).1
 have h2:=(au (au (au (lq h).2).2).2).1
 have h3:=(au (au (au (lq h).2).2).2).2
 rwa[VG hs,(lq h).1]
 obtain⟨⟨ds,σ1⟩,e1,hv⟩:=e8.mp hv
 ··show wpAny_For ?_ (Gp h2)
   show hit i ns h2 I F hr e1 λJ u M N st sat op=>?_
   have F1:=F.step I st
   show op.el λown fp vs eQ Sf G hJ n0 pb rl W lV hlen=>?_
   have ho:∀a∈own,M.heap.objs.size<=a:=λa B=>(n0 a B).1
   have W:=W A t hr.hh (xg h1 ((au (lq h).2).1))
   have I2:Inv w (u.more own) N σ1:=(I.bz st sat:Inv w u M σ1).enter G ho λa B=>(n0 a B).2
   have F2:bo w (u.more own) N.heap H ns ρ:=F1.enter G ho
   have K:∀a∈Pq.own H,a<M.heap.objs.size:=λa B=>(I.bz st sat:Inv w u M σ1).jn _ (F1.qo a B)
   have out:∀fl Z s',Step (own++fu af H) (u.more own) N Z s'->Sat w Z s'.heap σ'->bo w Z s'.heap H ns ρ'->Gv w Z s' fl r->Q fl s':=λfl Z s' gP xn Fp hf=>by
    show hQ fl (Z.less u.Z) s' (st.nil.trans (Step.Nc G ho gP)) (xn.leave (o5 gP:∀a∈u.Z,a∈Z.Z)) (Fp.leave (o5 gP:∀a∈u.Z,a∈Z.Z) F1.qo) ?_
    induction r with
    |none=>show hf
    |some d=>show bR hf λv e rv=>?_;show⟨v,e,rv.leave (o5 gP:∀a∈u.Z,a∈Z.Z)⟩
   have xe:∀(j:Nat)(fr:List aR)(ga:Pq.G)(sa:aA)(gb:Pq.G)(sb:aA),Step (own++fu af H) (u.more own) N ga sa->(∀a,ga.Ft a->a∉ga.Z)->Step fr ga sa gb sb->(∀a∈fr,a∈fu af H)->Sf j sa.heap->Sf j sb.heap:=λj fr ga sa gb sb x1 fz x2 xf hs=>by
    show W.frame j _ _ hs λb hb o e=>?_
    rcases pb b hb with q|⟨q1,q2⟩
    .show x2.ext.keep b o (λf=>fz b f (by rwa[x1.ext.z];show dT _ q)) (λf=>(λa B q=>cq _ (bg (K a (Fe a B)) (ho a q)):∀a∈fu af H,a∉own) b (xf b f) q) e
    .have Yx:¬(u.more own).Mt b:=λz=>(lT.mp z).elim q1 λz=>cq _ (bg q2 (ho b z))
     have uF:¬ga.Mt b:=λz=>(x1.ext.mt z).elim Yx λz=>cq _ (bg (bg q2 G.size) z)
     show x2.ext.keep b o (λf=>uF (aY f)) (λf=>uF (aW ?_)) e
     rwa[x1.ext.z];show F2.kM b (xf b f)
   show Yu (λk s'=>∃i,i+k=ds.length+1/\∃Z σ' A3,Yv w ns H own vs eQ ds Sf (u.more own) N _ _ i s' Z σ' A3) ?_ (ds.length+1)
    ⟨0,iK _,u.more own,σ1,ρ,⟨cQ _,.refl ..,I2.sat,F2,lV,(rl.enter (own:=own) G ho),hv⟩⟩
   rintro k s3 ⟨i,hk,P,σ3,Yy,c⟩
   have I3:Inv w P s3 σ3:=I2.go c.st c.sat (λa B=>(d9.mp B).elim (λq=>dT _ q) λq=>F2.kM a q:∀a∈own++fu af H,a∈(u.more own).Z)
   have U:∀a∈own,a∈P.Z:=λa B=>by rwa[c.st.ext.z];show dT _ B
   by_cases V:i<ds.length
   .have hd:ds[i]?=aa ds[i]:=dn V
    have L:=c.go
    rw[vO V]at L
    show ed (W.item i P s3 ds[i] (Nh w A _ t x H _) _ hd c.it c.rl I3.mO U λv s4 rv Yz kp=>?_) (λr M Gg=>by show bR Gg λv gO hw=>?_;show oI gO ?_;show hw) λX X e=>e
    have uG:Sat w P s4.heap σ3:=I3.sat.cA kp.keep U
    have I4:Inv w P s4 σ3:=I3.go kp.step uG U
    have F4:bo w P s4.heap H ns Yy:=c.fm.ext I3.sat.fz kp.step.ext U λa B q=>cq _ (bg (K a B) (ho a q))
    have YA:Step (own++fu af H) P s3 P s4:=kp.step.weaken λa B=>dT _ B
    have Y:=c.st.trans YA
    show bR (e8.mp L) λq4 e4 Ni=>?_
    show bU (e4) λρ4 YB e4=>?_
    show FR h1 hr.hh I4 F4 rv YB λs5 se YC F5=>?_
    have I5:Inv w P s5 σ3:=I4.go se YC F4.kM
    have Gx:Step (own++fu af H) P s4 P s5:=se.weaken λa B=>fG _ B
    show Gw (e8.mpr ⟨q4,e4,Ni⟩) (λYD YE e6 L=>?_) λd hd e6=>?_
    .show hb x ns h3 I5 F5 hr e6 λfl g6 s6 xo Gy F6 hf=>?_
     obtain rfl:=hf
     show⟨ds.length-i,KI hk V,i+1,KJ V,g6,YE,YD,⟨V,(Y.trans Gx).trans (xo.weaken λa B=>fG _ B),Gy,F6,xe (i+1) _ P s5 g6 s6 (Y.trans Gx) I5.sat.fz xo (λa B=>B) (xe (i+1) _ P s4 P s5 Y I4.sat.fz se (λa B=>B) Yz),((c.rl.ext kp.step.ext U).ext se.ext F4.kM:RL w P s5.heap vs eQ).ext xo.ext F5.kM,L⟩⟩
    .show hb x ns h3 I5 F5 hr e6 λfl g6 s6 xo Gy F6 hf=>?_
     clear L Ni hQ hv c e6;subst hd
     show bR hf λv gO rv=>?_;show oI gO ?_
     show out _ g6 s6 ((Y.trans Gx).trans (xo.weaken λa B=>fG _ B)) Gy F6 ⟨v,rfl,rv⟩
   .have:i=ds.length:=ku c.le (fi V)
    clear hk V;subst this
    have L:=c.go
    rw[Dm]at L
    clear hQ hv;show Ew (three (aH L)) λgO mU Gz=>?_;clear L hv;obtain rfl:=gO;obtain rfl:=mU;obtain rfl:=Gz
    show W.done s3 _ _ c.it λs' kp=>?_
    show out _ P s' (c.st.trans (kp.step.weaken λa B=>dT _ B)) (I3.sat.cA kp.keep U) (c.fm.ext I3.sat.fz kp.step.ext U λa B q=>cq _ (bg (K a B) (ho a q))) rfl
end
section
variable{w:aU}{g:G}{h h':b0}{σ:St}
theorem lW{n:Nat}(a:g.θ[n]?=W p)(c:¬g.Mt b):b≠p.1/\b≠p.2 :=
 ⟨λe=>c (aY ⟨p,cN a,aY e⟩),λe=>c (aY ⟨p,cN a,aW e⟩)⟩
theorem R.upd{n:Nat}(a:g.θ[n]?=W p)(k:∀b o,b≠p.1->b≠p.2->h.get? b=W o->h'.get? b=W o)(r:R w g h v d):R w g h' v d :=
 r.move (λb o c e=>k b o (lW a c).1 (lW a c).2 e) (λz f z=>f) λz z e=>e
theorem RL.upd{n:Nat}(a:g.θ[n]?=W p)(k:∀b o,b≠p.1->b≠p.2->h.get? b=W o->h'.get? b=W o)(r:RL w g h v d):RL w g h' v d :=
 r.move (λb o c e=>k b o (lW a c).1 (lW a c).2 e) (λz f z=>f) λz z e=>e
theorem Sat.upd(a:Sat w g h σ){p:aR×aR}{n:Nat}{o':O}(c:g.θ[n]?=W p)(k:∀b o,b≠p.1->b≠p.2->h.get? b=W o->h'.get? b=W o)(r:OR w g h' p o'):Sat w g h' (σ.set n o') where
 len:=by simpa using a.len
 obj:=λm q o l s=>by
  by_cases e:m=n
  .subst e
   rw[c]at l;cases l
   rw[Dn (by rwa[a.len];show(cD.mp c).1)]at s
   cases s;show r
  .rw [mq (kY e)]at s
   have t:p.1≠q.1/\p.1≠q.2/\p.2≠q.1/\p.2≠q.2:=by
    obtain⟨d,f⟩:=(cD.mp l)
    obtain⟨i,j⟩:=(cD.mp c)
    rcases Nat.lt_or_gt_of_ne e with u|u
    .have:=(vP.mp a.apart) m n d i u
     rw[f,j]at this
     show⟨this.1.symm,this.2.2.1.symm,this.2.1.symm,this.2.2.2.symm⟩
    .have:=(vP.mp a.apart) n m i d u
     rw[f,j]at this
     show this
   show(a.obj m q o l s).move (λb o v e=>k b o (lW c v).1 (lW c v).2 e) (λz x z=>x) (λz z e=>e) (λo e=>k _ o t.1.symm t.2.2.1.symm e) λo e=>k _ o t.2.1.symm t.2.2.2.symm e
 apart:=a.apart
 fz:=a.fz
theorem YF{n:Nat}(d:g.θ[n]?=W p)(k:∀b o,b≠p.1->b≠p.2->s.heap.get? b=W o->h'.get? b=W o)(i:s.heap.objs.size<=h'.objs.size):
 Step [] g s g {s with heap:=h',drawn:=a,toks:=c} :=
 ⟨⟨rfl,⟨[],by simp,λz h=>aF h bc⟩,λb o f z e=>k b o (λq=>f ⟨p,cN d,aY q⟩) (λq=>f ⟨p,cN d,aW q⟩) e,i⟩,rfl,rfl⟩
end
theorem YG{E:K->H->Prop}(e:s.heap.get? l=W (bO c m))(o:0<=k)(d:k<2^63)(f:k.toNat<c.size)
(g:∀h u,gp l s.heap h->h.get? l=aa (bO (c.setIfInBounds k.toNat v) u)->a () {s with heap:=h}):
 aj (ar pw w) b (setItem (ao l) (bL k t) v) a E s:=by
 have i:s.heap.IsList l c:=⟨_,e,rfl,m,rfl⟩
 have p:(bO c m).data= .seq c m:=rfl
 unfold setItem
 try with_reducible show cU ?_
 first|show ai (aD ?_)|skip
 show ai (yp i.typeIs (by rfl) ?_)
 show ai (ma (name:=a0 "__setitem__") i.typeIs slot_list_setitem
  (gE slot_list_setitem i.typeIs entry_list_setitem ?_ (args_list_setitem _ _ _)))
 show aj _ _ (Builtin.List.listSubscript? (bL k t)>>=_) _ _ s
 show ai (wpAny_listSubscript_int (fitsIndex_of o d) ?_)
 clear d
 revert f g;show gu k (Int.eq_ofNat_of_zero_le o) λj f g=>?_
 have x:j<c.size:=by simpa using f
 have n:c[j]?=aa c[j]:=Array.getElem?_eq_getElem x
 show aj _ _ ((seqItemAt l j>>=λr=>bx (r.map (j, ·)))>>=_) _ _ s
 show ai (ai (wpAny_seqItemAt e p (aD ?_)))
 rwa[n]
 show aj _ _ (setSeqItemAt l j v>>=_) _ _ s
 obtain⟨y,z⟩:=qd (λB=>B.setIfInBounds j v) e
 show ai (wpAny_setSeqItemAt e p ?_)
 have q:=g _ y (iu ..) (by simpa using z)
 first
  |show ai (aD (aD ⟨aN,rfl,aD q⟩))
  |show wpAny_pure ⟨.none,rfl,wpAny_pure q⟩
def uJ(w:aU)(n:Nat)(t:T):Prop:=∀(e:aX)(h:NS),AI h t e=U->∀{a:c8}{j b:Fm}{g:G}{s:H}{k c:St}{v:K}{d:D}{A:bK}{Q:Unit->H->Prop}{E:K->H->Prop},
 Inv w g s k->bo w g s.heap a h j->eK n A->R w g s.heap v d->kH tb (run n) t d j k=W (b,c) ->
 (∀i f,Step (fu U a) g s i f->Sat w i f.heap c->bo w i f.heap a h b->Q () f)->V (Z pw w) A (pH e a v) Q E s
section
variable{w:aU}{n:Nat}
theorem YH :uJ w n (dH i):=λe u h a y k g s z l v d A Q E I F B m j o=>by
 show cR (cO (L j)) λb c=>?_;clear j;obtain rfl:=b;obtain rfl:=c
 show bW h λx p h=>?_
 rwa[kJ p]
 show V _ _ (do jA x.2;qT a x.1 v) Q E s
 show J (gU (vp (F.store I h m λq r f t=>o g q r f t)))
theorem YI :uJ w n (iA l):=λe j h k B m g s H o v d A Q E I F p q f r=>by
 show eG (f) λt u i=>?_
 clear f;show cR (cO i) λa b=>?_;clear i;obtain rfl:=a;obtain rfl:=b
 show FR (show iW U j (jI l) e=U from h) p.hh I F q u λx y c z=>r g x y c z
theorem YJ(h:EN a o k d=W b){P:Prop}(f:∀m C l,o= ak m->a[m]?=W (cz C l)->l.length<900->C∈lN->b=a.set m (cz C (qe l k d))->P):P:=by
 induction o using bJ<;>first|show nn h|skip
 rename_i m
 have h:(match a[m]? with|some (cz C l)=>if l.length<900/\C∈lN then W (a.set m (cz C (qe l k d)))else N|_=>N)=W b:=h
 generalize q:a[m]?=g;induction g with
 |none=>rw[q]at h;show nn h
 |some x=>
  rw[q]at h
  induction x<;>first|show nn h|skip
  obtain⟨c,e⟩:=iff h
  show f _ _ _ rfl q c.1 c.2 (L e).symm
theorem YK(h:t4 a o e d=W b){P:Prop}(j:∀m l i,o= ak m->a[m]?=W (aO l)->e= aq i->0<=i->i.toNat<l.length->b=a.set m (aO (l.set i.toNat d))->P)
(g:∀m l,o= ak m->a[m]?=aa (a8 l)->keyOk l e=af->l.length<hH->b=a.set m (a8 (cp l e d))->P):P:=by
 induction o using bJ<;>first|show nn h|skip
 rename_i m
 have h:(match a[m]? with|some (aO l)=>(match(generalizing:=false) e with|.int i=>if 0<=i/\i.toNat<l.length then aa (a.set m (aO (l.set i.toNat d)))else ae|_=>ae)|some (a8 l)=>if keyOk l e/\l.length<hH then aa (a.set m (a8 (cp l e d)))else ae|_=>ae)=aa b:=h
 generalize q:a[m]?=f;induction f with
 |none=>rw[q]at h;show nn h
 |some x=>
  rw[q]at h
  induction x<;>first|show nn h|skip
  .clear g;induction e using bJ<;>first|show nn h|skip
   obtain⟨c,e⟩:=iff h
   show j _ _ _ rfl q rfl c.1 c.2 (aH e).symm
  .obtain ⟨c,e⟩:=iff h
   show g _ _ rfl q c.1 c.2 (aH e).symm
theorem Inv.upd(e:Nat)(I:Inv w g s c)(d:g.θ[m]?=W p)(k:∀b o,b≠p.1->b≠p.2->s.heap.get? b=W o->a.get? b=W o)(f:s.heap.objs.size<=a.objs.size)(r:OR w g a p o'):
 Step [] g s g {s with heap:=a,drawn:=dr,toks:=e}/\Sat w g a (c.set m o'):=⟨YF d k f,I.sat.upd d k r⟩
theorem YL(ho:bA w n o):uJ w n (f7 o k):=λe ns h B ρ ρ' g s σ σ' v d A Q E I F hr rv x hQ=>by
 obtain⟨⟨ob,σ1⟩,e1,x⟩:=e8.mp x
 show eG (x) λσ2 P U=>?_
 obtain⟨rfl,rfl⟩:=cO U
 show bW h λq hx h=>YJ P λm C l H hl V W e3=>?_
 subst e3;clear P x U;subst H
 have Y:=bS (au h).1
 rwa[Ay hx,(dq (au h).2).1]
 show aj _ _ (do let j <-ie [v] (bw q.1 B);jA q.2.2.atName;ie [v,j] (setAttr j (attr k) v);release [v,j] []) Q E s
 show ai (cU (ho _ ns (dq (au h).2).2 I F hr e1 λj g1 Z f c ro=>?_))
 show mx j ro λa dx y=>?_
 show ix (c.obj _ _ _ y hl) λes mm p r J ra=>?_
 have K:=au (au (bQ.mp (Ap w.params) C W)).1
 show ai (gU (ai (cU (S0 (I.bz f c).K ⟨r,J,ra⟩ Y (bX.mp (au (au K.1).1).2) (au K.1).2 (bX.mp (au (bQ.mp (bQ.mp (LM w.params) C W) k (fM.mpr Y))).2) K.2 (rv.ext f.ext (λX h=>aF h bc)) (bg ‹_› (br ..)) λh' L n' i M N tk=>yv ?_))))
 have kk:∀b o,b≠a->b≠dx->Z.heap.get? b=aa o->h'.get? b=aa o:=λb o X z e=>i.extBut b o z e
 obtain⟨t,u⟩:=(I.bz f c).upd (o':= cz C (qe l k d)) (dr:=Z.drawn) tk y kk (bC i.1.symm) (x2 L n' ⟨p,i.extBut _ _ p r,M,N.move (λb o z e=>kk b o (lW y z).1 (lW y z).2 e) (λX hm X=>hm) λX X e=>e⟩)
 show hQ g1 _ (f.trans t).nil u ((F.step I f).step (I.bz f c) t)
theorem YM(ho:bA w n o)(hi:bA w n i):uJ w n (iz o i):=λe ns h env ρ ρ' g s σ σ' v d A Q E I F Y rv B hQ=>by
 obtain⟨⟨ob,σ1⟩,Z,B⟩:=e8.mp B
 obtain⟨⟨ei,σ2⟩,e2,B⟩:=e8.mp B
 show eG (B) λσ3 hs e3=>?_
 obtain⟨rfl,rfl⟩:=cO e3
 show bW h λq hx h=>?_
 rwa[uu hx,arm_assign_Subscript]
 show ai (cU (ho _ ns (au h).1 I F Y Z λov g1 s1 c j ro=>?_))
 show ai (cU (hi _ ns (au h).2 (I.bz c j) (F.step I c) Y e2 λiv g2 L f p ri=>ai (gU ?_)))
 have V:=(I.bz c j).bz f p
 have N:=(rv.ext c.ext (λX h=>aF h bc)).ext f.ext (λX h=>aF h bc)
 have F2:=(F.step I c).step (I.bz c j) f
 have P:=ro.ext f.ext (λX h=>aF h bc)
 show YK hs (λm l k H hl he h0 hk e=>?_) λm l H hl ok r e=>?_
 .subst e;clear Z;subst H;clear e3 hs B e2;subst he
  show mx ov P λa J z=>?_
  show gu iv ri λt=>?_
  show ix (p.obj _ _ _ z hl) λvs mm hd K W rl=>?_
  clear ro;obtain rfl:J=a:=hd
  have len:=rl.f9
  have r:vs.size<=2^20:=W
  show ai (cU (YG K h0 (oC (we k) (tB (jd.mpr (bg hk (aC (bC len.symm) r))) (by decide))) (ey ‹_› (gq ‹_›)) λh' m' u pd=>yv ?_))
  have U:∀b o,b≠J->b≠J->L.heap.get? b=aa o->h'.get? b=aa o:=λb o M X e=>u.extBut b o M e
  show cR (V.upd (o':= aO (l.set k.toNat d)) (dr:=L.drawn) L.toks z U (bC u.1.symm) (x2 _ m' ⟨rfl,pd,by rwa[Array.size_setIfInBounds];show W,by rwa[Array.toList_setIfInBounds];show(rl.set k.toNat N).upd z U⟩)) λx y=>?_
  show hQ g2 _ ((c.trans f).trans x).nil y (F2.step V x)
 .clear e3;subst e;clear hs B Z e2;subst H
  show mx ov P λa J z=>?_
  show nI (p.obj _ _ _ z hl) λes mm hd K W nd re=>?_
  clear ro;obtain rfl:J=a:=hd
  show ai (cU (SI (lb Y.units (aQ rfl)) ⟨K,W,nd,re⟩ ri N ok r λh' es' n' u GA GB YN YO=>yv ?_))
  have U:∀b o,b≠J->b≠J->L.heap.get? b=aa o->h'.get? b=aa o:=λb o M X e=>u.extBut b o M e
  show cR (V.upd (o':= a8 (cp l ei d)) (dr:=L.drawn) (L.toks+ei.draws) z U (bC u.1.symm) (x2 es' n' ⟨rfl,GA,GB,YN,YO.move (λb o M e=>U b o (lW z M).1 (lW z M).2 e) (λX hm X=>hm) λX X e=>e⟩)) λx y=>?_
  show hQ g2 _ ((c.trans f).trans x).nil y (F2.step V x)
end
set_option backward.match.sparseCases true
section
variable{w:aU}{n:Nat}
theorem Nj{t:Option aX}(h:w8 v=Y):swapsWith v t a b=bx Y:=by
 induction v using jE<;>first|rfl|show ff (gq h)
theorem GC(h:(!b)=U):b=Y:=by induction b<;>first|rfl|show ff h
theorem YQ(l:bA w n x):ph w n (.ex x):=λa m h b L o g s M p r A Q E I F t j u=>by
 obtain⟨⟨d,y⟩,z,k⟩:=ej.mp j
 clear j;show Ew (three k) λc e f=>?_;clear k;obtain rfl:=c;obtain rfl:=e;obtain rfl:=f
 show bW h λq B h=>?_
 rwa[VC B]
 have H:interactive b=Y:=by unfold interactive;rwa[F.kind];rfl
 show wpAny_Expr_any (l _ m (au h).1 I F t z λv J K a i N=>u _ J K a.nil i (F.step I a) rfl) H (Nj (GC (au h).2))
theorem bo.bk{c:NS}{s:H}(F:bo w g s.heap a c b):a.blockKind= lK/\∀x,a.kindOf x=c.lookup x:=by
 show⟨?_,λx=>?_⟩
 .unfold Env.blockKind;rwa[F.kind];rfl
 .unfold wi;rwa[F.names]
theorem YR{ns:NS}{e v:aX}{s:H}(F:bo w g s.heap a ns c)(h:w8 v=U->v.ctorIdx=8):swapsWith v (W e) b a=bx (uy ns e v):=by
 generalize d:w8 v=f;induction f with
 |false=>
  rwa[Nj d]
  clear h;induction v using jE<;>first|rfl|show ff (gq d)
 |true=>
  show zP (motive_1:=λv=>swapsWith v (W e) b a=bx (uy ns e v)) v (h d) λm i j p=>?_
  induction e using jE<;>first|rfl|skip
  rename_i t l
  show bx (a.blockKind== lK&&a.kindOf t==W .local&&l.line==p.line&& !(j.names.any λ(n,k)=>n==t&&(k==.local||k== fH)))=_
  rwa[F.bk.1,F.bk.2]
  rfl
theorem YS(h:a5 ns x v=U)(a:w8 v=U):v.ctorIdx=8:=by
 have e:=xb h
 have a:(v.ctorIdx==8||(v.ctorIdx==9||v.ctorIdx==10))=U:=a
 rw[e]at a |-
 clear e h;induction x using rR<;>first|rfl|show ff a
theorem A5[Decidable c]{x r:b}{a:Option b}{m:eT b}(h:(if c then W x else a)=W r)(k:a=W r->m=bx r):(if c then bx x else m)=bx r:=by
 by_cases q:c
 .rw [aJ q]at h |-;rwa[L h]
 .rw [aL q]at h |-;show k h
theorem YT{e:NS}{a b:List aX}{r:Option (List bu)}{f:aX->Bool}{d:aX->Option bu}{kd:ScopeKind}{u:eT (Option (List bu))}(h:AJ e a b=W r)(g:kd= lK)(i:∀t,f t=(t.ctorIdx==22))(j:∀t,d t=nameAt e ((a.head?.map (·.pos.line)).getD 0) t):
 (if(!(a.length==2||a.length==3)||b.length !=a.length||kd != lK)=U then bx N else if b.any f=U then bx N else if((a.filterMap d).length !=a.length||(a.filterMap d).eraseDups.length !=(a.filterMap d).length)=U then bx N else if b.all (foldedForSure 8)=U then bx N else if b.all (yt 8)=U then u else bx (W (a.filterMap d)))=bx r:=by
 rwa[g,show(lK !=lK)=Y from rfl,Bool.or_false,funext i,funext j]
 unfold AJ at h
 show A5 h λh=>A5 h λh=>A5 h λh=>A5 h λh=>?_
 by_cases c:b.all (yt 8)=U
 .rw [aJ c]at h;show nn h
 .rw [aL c]at h;show(aL c).trans ?_;rwa[<-L h]
theorem YU{ns:NS}{s:H}(F:bo w g s.heap a ns b)(f:AK e=U)(h:uz ns e v=W r):yA [e] v a=bx r:=by
 by_cases c:e.ctorIdx=25
 .revert f h
  show tK (motive_1:=λe=>AK e=U->uz ns e v=W r->yA [e] v a=bx r) e c λi k p z h=>?_
  by_cases d:v.ctorIdx=25
  .revert h
   show tK (motive_1:=λv=>uz ns (pU i k p) v=W r->yA [pU i k p] v a=bx r) v d λj l m h=>?_
   show YT h F.bk.1 (λt=>by induction t using jE<;>rfl) λt=>by induction t using jE<;>first|rfl|(show(if(a.kindOf _==_&&_)=U then _ else _)=_;rwa[F.bk.2];rfl)
  .have h:(if(25==25&&v.ctorIdx==25)=U then _ else W N)=W r:=h
   rw[aL (by rwa[beq_eq_false_iff_ne.mpr d];show fe)]at h
   rwa[<-L h]
   clear h;induction v using jE<;>first|rfl|show aF rfl d
 .unfold uz at h
  rw[aL (by rwa[beq_eq_false_iff_ne.mpr c];show fe)]at h
  rwa[<-L h]
  induction e using jE<;>first|rfl|show aF rfl c|show ff f
theorem YV{t:NS}{E:K->aA->Prop}{l:List Nat}(u:l.length=c.length)(H:l.length=ds.length)(J:((l.zip c).all λp=>jK U t p.1 p.2)=U)
(I:Inv w g s k)(F:bo w g s.heap e t j)(q:RL w g s.heap f ds)(h:∀m,Step (fu af e) g s g m->Sat w g m.heap k->bo w g m.heap e t ((l.zip ds).foldl (λr p=>r.set p.1 (aa p.2)) j)->a () m):
 aj (ar pw w) b (yx (c.map λn=>qT e n) f) a E s:=by
 induction l generalizing c f ds j g s a with
 |nil=>
  rwa[ml.mp u.symm]
  clear q;induction f using bH<;>show aD (h s (.refl ..) I.sat F)
 |cons i l ih=>
  induction c using bH with
  |nil=>show tN u
  |cons x c=>
   induction ds using bH with
   |nil=>show tN H
   |cons d ds=>
    obtain⟨v,f,rfl,K,q⟩:=q
    show aj _ _ (do ie f (qT e x v);yx (c.map λn=>qT e n) f) a E s
    show ai (cU (vp (F.store I (au J).1 K λm y z L=>?_)))
    show ih (gs u) (gs H) (au J).2 (I.go y z F.kM) L (q.ext y.ext F.kM) λM B o N=>h M (y.trans B) o N
theorem Nk{l:List c}{m:List d}(h:l.length=m.length):l.reverse.zip m.reverse=(l.zip m).reverse:=by
 induction l generalizing m with
 |nil=>rfl
 |cons a l e=>
  induction m using bH with
  |nil=>show tN h
  |cons b m=>
   rwa[za,q6,q6,q6,List.zip_append (by rwa[pO,pO];show(gs h)),e (gs h)];rfl
theorem YW{l:List Nat}(k:l.Nodup)(m:l.length=a.length)(f:Fm):(l.reverse.zip a.reverse).foldl (λr p=>r.set p.1 (W p.2)) f=(l.zip a).foldl (λr p=>r.set p.1 (W p.2)) f:=by
 rwa[Nk m]
 show List.Perm.foldl_eq' (List.reverse_perm _) (λx g y h z=>?_) f
 by_cases q:x.1=y.1
 .have b:=Jf.mp g
  have c:=Jf.mp h
  obtain⟨i,d⟩:=lD b
  obtain⟨j,e⟩:=lD c
  clear b g;obtain⟨o,s⟩:=x
  obtain⟨t,u⟩:=y
  rw[rh]at d e
  simp only at q d e
  subst q
  have:i=j:=(Df (cD.mp d.1).1 k).mp (d.1.trans e.1.symm)
  subst this
  have:=d.2.symm.trans e.2
  clear h e c;cases this
  rfl
 .show List.set_comm _ _ q
theorem YX(d:(b.filterMap (nameAt c a)).length=b.length)(e:l.length=b.length)(h:FQ U c l b=U):((l.zip (b.filterMap (nameAt c a))).all λp=>jK U c p.1 p.2)=U:=by
 induction b generalizing l with
 |nil=>rwa[ml.mp e];rfl
 |cons t b k=>
  induction l using bH with
  |nil=>show Eu e
  |cons i l=>
   generalize q:nameAt c a t=f;induction f with
   |none=>rw[List.filterMap_cons_none q]at d;show aF (d▸(Jc (nameAt c a) b)) (CZ _)
   |some x=>
    rw[List.filterMap_cons_some q]at d |-
    show bU (q) λp m o=>?_
    show dN (bW (au h).1 λr g j=>?_) (k (gs d) (gs e) (au h).2)
    rw[<-L (m.symm.trans g),L (iff o).2]at j
    show j
end
set_option backward.match.sparseCases false
def uK(w:aU)(n:Nat)(x:X):Prop:=∀(e v:aX)(b:NS)(t:T),a5 b x v=U->uy b e v=U->AI b t e=U->∀{a:c8}{j c:Fm}{g:G}{s:H}{l f h:St}{d:D}{A:bK}{Q:Unit->H->Prop}{E:K->H->Prop},
 Inv w g s l->bo w g s.heap a b j->eK n A->ev tb (run n) x j l=W (d,f)->kH tb (run n) t d j f=W (c,h) ->
 (∀k i,Step (fu U a) g s k i->Sat w k i.heap h->bo w k i.heap a b c->Q () i)->V (Z pw w) A (yB v a λx=>vt x ((lz [e] a).map (·.2))) Q E s
theorem YY{ns:NS}{t:T}{e:aX}(h:AK e=U)(a:c8):(lz [e] a).map (·.2)=[pH e a]:=by
 induction e using jE<;>first|rfl|show ff h
section
variable{w:aU}{n:Nat}
theorem YZ(ht:uJ w n t)(hx:bA w n x)(hu:uK w n x):ph w n (jJ t x):=λst ns h j ρ ρ' g s σ σ' r A Q E I F U V H=>by
 obtain⟨⟨d,σ1⟩,e1,V⟩:=e8.mp V
 obtain⟨⟨A3,σ2⟩,W,e2⟩:=ej.mp V
 show Ew (three e2) λgO mU Gz=>?_;obtain rfl:=gO;obtain rfl:=mU;obtain rfl:=Gz
 show bW h λ⟨es,v,p⟩ GD h=>bW h λe he h=>?_
 have u:=(au h).1
 have h2:=(au (au h).2).1
 have h4:=(au (au (au h).2).2).2
 obtain⟨sw,k⟩:=fF.mp (au (au (au h).2).2).1
 rwa[VB GD,show es=_ from Aw he]
 show aj _ _ (do
  jA p
  if <-swapsWithSole [e] v p.line j then do
   yB v j λv=>vt v ((lz [e] j).map (·.2))
   bx fD
  else do
   let v' <-bw v j
   assignStores j v' (<-yA [e] v j) ((lz [e] j).map (·.2))) Q E s
 show ai (gU ?_)
 rwa[show swapsWithSole [e] v p.line j=bx (uy ns e v)from YR F (YS h2),YU F h4 k]
 show ai (aD ?_)
 generalize hb:uy ns e v=Y0;induction Y0 with
 |true=>
  show ai (hu e v ns t h2 hb u I F U e1 W λg' s' gP J Fp=>aD (H _ g' s' gP J Fp rfl))
 |false=>
  show ai (hx v ns h2 I F U e1 λva g1 s1 z K rv=>ai (aD ?_))
  have L:=I.bz z K
  have F1:=F.step I z
  unfold assignStores
  induction sw with
  |none=>
   dsimp only
   rwa[YY (ns:=ns) (t:=t) h4 j]
   show aj _ _ (do pH e j va;bx fD) Q E s1
   show ai (ht e ns u L F1 U rv W λg2 s2 B y F2=>aD (H _ g2 s2 (z.nil.trans B) y F2 rfl))
  |some f=>
   show ai (iJ ?_)
   obtain⟨a,b,ha,Y1⟩:∃a b,rY e=aa a/\AJ ns a.1 b=aa (aa f):=by
    unfold uz at k
    by_cases c:(e.ctorIdx==25&&v.ctorIdx==25)=af
    .rw [aJ c]at k
     show bU (k) λa ha k=>?_
     show bU (k) λb hb k=>?_
     show x2 a _ ⟨ha,k⟩
    .rw [aL c]at k;show nn (aH k)
   have Y:∀{c:Prop} [Decidable c] {o:Option (Option (List bu))},(if c then aa ae else o)=aa (aa f)->¬c/\o=aa (aa f):=λ{c} X o h=>by
    by_cases q:c
    .rw [aJ q]at h;show nn (aH h)
    .rw [aL q]at h;show⟨q,h⟩
   obtain⟨c3,h3⟩:=Y (Y (Y Y1).2).2
   have Z:=(Y h3).2
   rw[iI,not_or]at c3
   have M:f=a.1.filterMap (nameAt ns ((a.1.head?.map (·.pos.line)).getD 0)):=by
    by_cases c:b.all (yt 8)=af
    .rw [aJ c]at Z;show nn Z
    .rw [aL c]at Z;show(aH (aH Z)).symm
   have i:f.length=a.1.length:=by rwa[M];show Decidable.not_not.mp λq=>c3.1 (bne_iff_ne.mpr q)
   rw[w7 ha]at u
   induction t with
   |tup l=>
    show bW (show((rY (pU a.1 a.2.1 a.2.2)).any λq=>aK l.Nodup&&(l.length==q.1.length&&(l.zip q.1).all λp=>(jM p.2).any λx=>jK af ns p.1 x.1))=af from u) λq hq u=>?_
    revert u;show iw (aH (show aa (a.1,a.2.1,a.2.2)=aa q from hq)) λu=>?_
    have m:=bX.mp (au (au u).2).1
    have N:((l.zip f).all λp=>jK af ns p.1 p.2)=af:=by
     rw[M]at i |-;show YX i m (au (au u).2).2
    show eG (W) λY2 xl P=>?_
    obtain⟨rfl,rfl⟩:=cO P
    clear P W V e2;revert H;show KO Y2 (MQ xl rv) λds hl hi ho H=>?_
    rwa[i,<-m,hl]
    show ai (MP L U.hh hi ho λus s' G r=>?_)
    show ai (YV (l:=l.reverse) (ds:=ds.reverse) (![pO,pO,i,m]) (![pO,pO,hl]) (by rwa[Nk (m.trans i.symm),List.all_reverse];show N) (L.bz (lU G []) (r6 L G)) (F1.step L (lU G [])) r.reverse λs2 B y F3=>aD ?_)
    rw[YW (bS (au u).1) hl]at F3
    show H _ g1 s2 ((z.nil.trans (lU G _)).trans B) y F3 rfl
   |_=>show ff u
end
noncomputable def A6:X->Bool
 |.comp ..=>U
 |.tY ..=>U
 |_=>Y
theorem Y3(h:A6 x=Y):om 8 (xk x)=Y:=by induction x using rR<;>first|rfl|show ff h.symm
theorem GF(a:A6 x=Y):uK w n x:=λe v d t h b z=>by
 exfalso
 show bW b λq c z=>?_
 have e:=xb h
 rw[AE c]at e
 show vC (Y3 a) e
section
variable{w:aU}{n:Nat}
theorem Nl(hit:jo w n it){el t i:aX}{fs:List aX}{E:K->H->Prop} 
(pg:k9 it tg=af)(N:mQ r f v=af)(h1:kK r it i=af)(h2:iW ah (en r f.names) tg t=af)(I:Inv w g s σ)(F:bo w g s.heap env r y)(hr:eK n d)
(e1:fJ tb (run n) it y σ=aa (ds,l))(Y4:ds.length<=2^20->out.length<=2^20)
(Y5:∀(J:aR)(own fp:List aR)(vs:List az)(Z:List D)(Sf:Nat->b0->Prop)(L:aR)(mV:G)(Q:aA)(M:c8)(R:km->aA->Prop),ds.length<=2^20->LoopAt w d t J own fp vs Z ds Sf L mV Q M (en r f.names) (iZ v y) l->Q.heap.get? L=aa (bO #[] 0) ->
  (∀P K us m,Step (L::M.locals::own) mV Q P K->Sat w P K.heap σ2->bo w P K.heap M (en r f.names) (iZ v y)->K.heap.get? L=aa (bO us m)->RL w P K.heap us.toList out->R (fO fD) K) ->
  gm (ar pw w) d (oA (fV el (⟨t,i,fs,0⟩::rest) f u) 0 (ao J) (ao L) M) R Q)
(fin:∀(eo:G)(H Q:aA)(L:aR)(own:List aR)(P:G)(K:aA)(us:Array az)(m':Nat),Step [] g s eo H->Inv w eo H l->bo w eo H.heap env r y->cu H Q->(∀a∈L::(L+1)::own,H.heap.objs.size<=a) ->
  Inv w (eo.more (L::(L+1)::own)) Q l->Step (L::(L+1)::own) (eo.more (L::(L+1)::own)) Q P K->Sat w P K.heap σ2->K.heap.get? L=aa (bO us m')->RL w P K.heap us.toList out->us.size<=2^20->(∃m,K.heap.Ns (L+1) m) ->
  qU (ar pw w) d E use QQ (ao L) (L+1) (fO fD) K):
 aj (ar pw w) d (CK (fV el (⟨t,i,fs,0⟩::rest) f u) f env (CL (⟨t,i,fs,0⟩::rest) u) (newList []) ah (bw i env) use) QQ E s:=by
 have hk:f.kind= lK:=bX.mp (au (au N).1).1
 have Y6:closureFor f env=bx (gf env.cells f.names []):=XF λx k hx Y7=>by
  subst Y7
  obtain⟨j,hj⟩:=lD hx
  have Y8:AG r f.names v=af:=(au N).2
  rcases r7 Y8 hj with⟨X,j',k',X,h6,h7⟩|⟨h,X⟩
  .show bR (F.cell j' x k' h6 h7) λc hc X=>?_;show⟨c,hc⟩
  .rcases h with h|h<;>cases h
 show wpAny_comprehension_free (use:=use) rfl (λx=>Gp h1 x) Y6 hk (X8 N) ?_
 show hit i r h1 I F hr e1 λJ eo H B st sat op=>?_
 have I1:Inv w eo H l:=I.bz st sat
 have F1:=F.step I st
 show op.el λown fp vs Z Sf G hJ n0 pb rl W lV hlen=>?_
 show yC ?_
 have U:(B.heap.push (bO #[] 0)).objs.size=B.heap.objs.size+1:=eP ..
 show wpAny_newFunctionEnv (X7 N) (λX h=>aF h bc) (λh' hN hs=>?_) hk
 have GG:H.heap.objs.size<=B.heap.objs.size:=G.size
 have V:∀b o,B.heap.get? b=aa o->h'.get? b=aa o:=λb o e=>hs.extBut b o (by
  have:=dt e
  show b≠(B.heap.push (bO #[] 0)).objs.size
  rwa[U];show eU (jQ this)) (dF _ (dF _ e))
 have Y9:h'.objs.size=B.heap.objs.size+2:=by
  rwa[hs.1]
  show((B.heap.push (bO #[] 0)).push _).objs.size=_
  rwa[eP,U]
 have Gs:h'.get? B.heap.objs.size=aa (bO #[] 0):=hs.extBut _ _ (by
  show B.heap.objs.size≠(B.heap.push (bO #[] 0)).objs.size
  rwa[U];show eU (dP _)) (dF _ (dQ _ rfl))
 have G4:cu H ({B with heap:=h',toks:=B.toks+([]:List (bu×az)).length}:aA):=⟨λb o e=>V b o (G.keep b o e),by show _<=h'.objs.size;lia,G.gens,G.os⟩
 generalize Za:({B with heap:=h',toks:=B.toks+([]:List (bu×az)).length}:aA)=Q at G4
 have A7:Q.heap=h':=![<-Za]
 have ho:∀a∈B.heap.objs.size::(B.heap.objs.size+1)::own,H.heap.objs.size<=a:=λa ha=>by
  rcases bB.mp ha with rfl|ha
  .show GG
  rcases bB.mp ha with rfl|ha
  .show gV GG
  .show (n0 a ha).1
 have hC:B.heap.objs.size+1∈B.heap.objs.size::(B.heap.objs.size+1)::own:=bq _ (a7 ..)
 have I4:Inv w (eo.more (B.heap.objs.size::(B.heap.objs.size+1)::own)) Q l:=I1.enter G4 ho λa ha=>by
  rwa[A7,Y9]
  rcases bB.mp ha with rfl|ha
  .show jQ (dP _)
  rcases bB.mp ha with rfl|ha
  .show dP _
  .show bg (n0 a ha).2 (ew _ _)
 have Zb:Q.heap.Ns (B.heap.objs.size+1) λX=>ae:=by
  rwa[A7]
  have:(B.heap.push (bO #[] 0)).objs.size=B.heap.objs.size+1:=U
  have Nm:h'.Ns (B.heap.push (bO #[] 0)).objs.size (λx=>([]:List (bu×az)).reverse.lookup x):=hN
  rw[this]at Nm
  show Nm
 have F4:=bo.comp (C:=B.heap.objs.size+1) N I1 F1 G4 ho hC Zb
 have Nn:∀a∈own,a<B.heap.objs.size:=λa ha=>(n0 a ha).2
 have Np:Sf 0 Q.heap:=(W d t hr.hh (xg h2 pg)).frame 0 _ _ lV λb X o e=>by rwa[A7];show V b o e
 have Zc:AG r f.names v=af:=(au N).2
 have LA:LoopAt w d t J own fp vs Z ds Sf B.heap.objs.size (eo.more (B.heap.objs.size::(B.heap.objs.size+1)::own)) Q (uE f (gf env.cells f.names []) (B.heap.objs.size+1) env) (en r f.names) (iZ v y) l :=
  ⟨W d t hr.hh (xg h2 pg),λa ha=>dT _ (bq _ (bq _ ha)),dT _ (a7 ..),λq=>cq _ (Nn _ q),eU (dP _),λq=>cq _ (e9 (Nn _ q) (dP _)),
   λb hb=>by
    rcases pb b hb with q|⟨q1,q2⟩
    .show aY q
    .show aW ⟨λq=>(lT.mp q).elim q1 λz=>cq _ (bg q2 (ho b z)),bg q2 G4.size⟩,
   I4,F4,Np,rl.enter G4 ho,
   λp hp=>by
    have Nq:p.2<H.heap.objs.size:=by
     rcases MX hp with h|⟨h5,h6⟩
     .show aF ‹_› bc
     .obtain ⟨j,hj⟩:=lD h5
      rcases r7 Zc hj with⟨X,j',k',X,h7,h8⟩|⟨h,X⟩
      .show aV (F1.cell j' _ k' h7 h8) λc hc X=>?_
       rw[hc]at h6
       rwa[h6]
       show I1.jn _ (F1.zc _ (og hc))
      .rcases h with h|h<;>cases h
    show⟨λq=>cq _ (bg Nq (n0 _ q).1),eU (bg Nq GG)⟩⟩
 have loop:=λR=>Y5 J own fp vs Z Sf B.heap.objs.size _ Q _ R hlen LA (by rwa[A7];show Gs)
 have fin:=λP K us m' (gP:Step _ _ Q P K) xn (Fp:bo w P K.heap (uE f (gf env.cells f.names []) (B.heap.objs.size+1) env) (en r f.names) (iZ v y)) pd (ru:RL w P K.heap us.toList out)=>fin eo H Q B.heap.objs.size own P K us m' st I1 F1 G4 ho I4 gP xn pd ru (by have:=ru.length;have:=Y4 hlen;simp at this;rwa[<-jT];show aC (bC ‹_›) ‹_›) (let⟨m,hm,_⟩:=Fp.loc;⟨m,hm⟩)
 have key:=loop _ fin
 have self:=(W d t hr.hh (xg h2 pg)).self 0 Q (λZd K=>gm (ar pw w) d (oA (fV el (⟨t,i,fs,0⟩::rest) f u) 0 Zd (ao B.heap.objs.size) (uE f (gf env.cells f.names []) (B.heap.objs.size+1) env)) (qU (ar pw w) d E use QQ (ao B.heap.objs.size) (B.heap.objs.size+1)) K)
  (nh (ar pw w) d (uE f (gf env.cells f.names []) (B.heap.objs.size+1) env) λx K=>qU (ar pw w) d E use QQ (ao B.heap.objs.size) (B.heap.objs.size+1) (jS x) K) Np key
 have Y:=codeAny_compStart_list (env:=uE f (gf env.cells f.names []) (B.heap.objs.size+1) env) key self
 have Ze:(B.heap.push (bO #[] 0)).objs.size=B.heap.objs.size+1:=U
 rw[<-Ze]at Y
 show Y
theorem Nr{m:Bool}{own:List aR}{ns:NS} 
(I1:Inv w f j σ1)(F1:bo w f j.heap u ns ρ)(G4:cu j y)(ho:∀a∈b::(b+1)::own,j.heap.objs.size<=a)(I4:Inv w (f.more (b::(b+1)::own)) y σ1)
(gP:Step (b::(b+1)::own) (f.more (b::(b+1)::own)) y h l)(H:Sat w h l.heap s)(M:l.heap.get? b=aa (bO us m'))(ru:RL w h l.heap us.toList t)(N:us.size<=2^20)
(I:(if m then(ak s.length,s++[aO t])else(ay t,s))=(d,σ3)):
 ∃P:G,P.Z=(b+1)::f.Z/\Step [] f j (P.less f.Z) l/\Inv w P l σ3/\bo w P l.heap u ns ρ/\R w P l.heap (ao b) d:=by
 have Q:∀a∈b::(b+1)::own,a∈(f.more (b::(b+1)::own)).Z:=λa A=>dT _ A
 have J:Inv w h l s:=I4.go gP H Q
 have own':∀a∈b::(b+1)::own,a∈h.Z:=λa A=>by rwa[gP.ext.z];show Q a A
 have B:∀a∈(b+1)::f.Z,a∈h.Z:=λa A=>by
  rcases bB.mp A with rfl|A
  .show own' _ (bq _ (a7 ..))
  .show (o5 gP:∀a∈f.Z,a∈h.Z) a A
 have sf:b∈h.Z:=own' _ (a7 ..)
 have kN:j.heap.objs.size<=b:=ho _ (a7 ..)
 have GH:b∉(b+1)::f.Z:=λq=>by
  rcases bB.mp q with e|q
  .show eU (dP b) e
  .show cq _ (bg (I1.jn _ q) kN)
 have F5:bo w h l.heap u ns ρ:=(F1.enter (own:=b::(b+1)::own) G4 ho).ext I4.sat.fz gP.ext Q λa A q=>cq _ (bg (I1.jn _ (F1.qo a A)) (ho a q))
 have U:=F5.leave B (λa A=>bq _ (F1.qo a A):∀a∈Pq.own u,a∈(b+1)::f.Z)
 have V:=Step.leave (own:=b::(b+1)::own) (g:=f) G4 ho gP λa A=>A
 induction m with
 |false=>
  cases I
  show⟨h.less ((b+1)::f.Z),rfl,V,⟨J.base,λa A=>J.hi a (oZ B A),λa A=>J.jn a (B a A),H.leave B⟩,U,.lst M (λq=>?_) N (ru.leave B)⟩
  rcases q with q|q
  .show H.fz _ q sf
  .show GH q
 |true=>
  cases I
  have K:∀a,¬h.Mt a->¬((h.less ((b+1)::f.Z)).add (b,b)).Mt a:=λa hm q=>by
   clear U ho;rcases uB.mp q with q|rfl|rfl
   .show hm (oZ B q)
   .show hm (aW sf)
   .show hm (aW sf)
  have A8:∀(k:Nat) q,h.θ[k]?=aa q->((h.less ((b+1)::f.Z)).add (b,b)).θ[k]?=aa q:=λk q e=>by
   show(h.θ++[_])[k]?=aa q
   rwa[fB (cD.mp e).1];show e
  obtain⟨W,rB⟩:=MZ (p:=(b,b)) (o:= aO t) H B ⟨sf,sf⟩ ⟨GH,GH⟩ (x2 us m' ⟨rfl,M,N,(ru.move (λn n n e=>e) (λa hm n=>K a hm) A8:RL w ((h.less ((b+1)::f.Z)).add (b,b)) l.heap us.toList t)⟩)
  have F7:bo w ((h.less ((b+1)::f.Z)).add (b,b)) l.heap u ns ρ :=
   {kind:=F5.kind,names:=F5.names,glob:=F5.glob,bi:=F5.bi,len:=F5.len,nd:=F5.nd,apart:=F5.apart,z:=U.z,zc:=U.zc
    loc:=by
     show aV (F5.loc) λmm hm r=>?_
     show⟨mm,hm,λi x d Y Z=>aV (r i x d Y Z) λv h3 h4=>⟨v,h3,h4.move (λn n n e=>e) (λa hm n=>K a hm) A8⟩⟩
    cell:=λi x k Y Z=>by
     obtain⟨c,hc,GI,vo,hv,r⟩:=F5.cell i x k Y Z
     show⟨c,hc,GI,vo,hv,λd hd=>aV (r d hd) λv h3 h4=>⟨v,h3,h4.move (λn n n e=>e) (λa hm n=>K a hm) A8⟩⟩}
  show⟨(h.less ((b+1)::f.Z)).add (b,b),rfl,M0 V ⟨kN,kN⟩,⟨J.base,λa A=>?_,λa A=>J.jn a (B a A),W⟩,F7,rB⟩
  clear A8 U ho;rcases uB.mp A with q|rfl|rfl
  .show J.hi a (oZ B q)
  .show J.hi _ (aW sf)
  .show J.hi _ (aW sf)
theorem Nt{m:Bool}{ns:NS}{I z J:St}{B:List aR}{E:K->H->Prop} 
(K:(if m then(ak z.length,z++[aO p])else(ay p,z))=(d,J))(hQ:PE w g s J d c)
(st:Step [] g s i j)(I1:Inv w i j I)(F1:bo w i j.heap u ns v)(G4:cu j k)(ho:∀a∈f::(f+1)::B,j.heap.objs.size<=a)(I4:Inv w (i.more (f::(f+1)::B)) k I)
(V:Step (f::(f+1)::B) (i.more (f::(f+1)::B)) k r l)(M:Sat w r l.heap z)(W:l.heap.get? f=aa (bO t x))(ru:RL w r l.heap t.toList p)(Y:t.size<=2^20)(hn:∃m,l.heap.Ns (f+1) m):
 qU (ar pw w) h E ae c (ao f) (f+1) (fO fD) l:=by
 obtain⟨mm,Z⟩:=hn
 show⟨mm,Z,λN H=>?_⟩
 show wy (Nr I1 F1 G4 ho I4 V M W ru Y K) λg2 P y I2 F2 rv=>?_
 have kk:∀b o,b∉[f+1]->l.heap.get? b=aa o->N.get? b=aa o:=λb o hb e=>H.extBut b o (λq=>‹¬_› (bB.mpr (aY q))) e
 have zC:∀a∈[f+1],a∈g2.Z:=by rwa[P];simp
 have U:∀a∈i.Z,a∈g2.Z:=λa ha=>by rwa[P];show bq _ ha
 have kN:j.heap.objs.size<=f+1:=ho _ (bq _ (a7 ..))
 show hQ _ (g2.less i.Z) {l with heap:=N} (st.trans ⟨⟨y.ext.z,y.ext.pre,λb o hf hb e=>kk b o (λq=>?_) (y.ext.keep b o hf hb e),aC y.ext.size (bC H.1.symm)⟩,y.gens,y.os⟩) ((I2.sat.cA kk zC).leave U) ((rv.cA kk zC).leave U)
 rw[bI.mp q]at e
 show cq _ (bg (dt e) kN)
theorem Nu{m:Bool}{j:c8}{ns:NS}{ρ ρ':Fm}{g c K:G}{s i t r:aA}{U B H:St}{L:aR}{I:List aR}{us:Array az}{m':Nat}{M:List D}{d:D}{A:bK}{E:az->aA->Prop}{Q:Unit->aA->Prop}{u:az->eT Unit}
(V:(if m then(ak B.length,B++[aO M])else(ay M,B))=(d,H))
(hu:∀(v:az)(l:G)(W:aA)(Q':Unit->aA->Prop),Inv w l W H->bo w l W.heap j ns ρ->R w l W.heap v d->(∀x,Step (fu af j) l W l x->Sat w l x.heap H->bo w l x.heap j ns ρ'->Q' () x)->aj (ar pw w) A (u v) Q' E W)
(hQ:∀K r,Step (fu af j) g s K r->Sat w K r.heap H->bo w K r.heap j ns ρ'->Q () r)
(st:Step [] g s c i)(I1:Inv w c i U)(F1:bo w c i.heap j ns ρ)(G4:cu i t)(ho:∀a∈L::(L+1)::I,i.heap.objs.size<=a)(I4:Inv w (c.more (L::(L+1)::I)) t U)
(gP:Step (L::(L+1)::I) (c.more (L::(L+1)::I)) t K r)(Y:Sat w K r.heap B)(pd:r.heap.get? L=aa (bO us m'))(ru:RL w K r.heap us.toList M)(A4:us.size<=2^20)(hn:∃m,r.heap.Ns (L+1) m):
 qU (ar pw w) A E (aa u) (λn s=>Q () s) (ao L) (L+1) (fO fD) r:=by
 obtain⟨mm,Zf⟩:=hn
 show wy (Nr I1 F1 G4 ho I4 gP Y pd ru A4 V) λl Z k I2 F2 rv=>?_
 have zC:∀a∈[L+1],a∈l.Z:=by rwa[Z];simp
 have Nv:∀a∈c.Z,a∈l.Z:=λa ha=>by rwa[Z];show bq _ ha
 have kN:i.heap.objs.size<=L+1:=ho _ (bq _ (a7 ..))
 have eO:∀a∈Pq.own j,a≠L+1:=λa ha e=>cq _ (bg (I1.jn a (F1.qo a ha)) (e▸kN))
 show hu _ l r _ I2 F2 rv λx p J F3=>?_
 show⟨mm,Zf.at' λo e=>p.ext.keep _ o (λf=>I2.sat.fz _ f (zC _ (a7 ..))) (λq=>eO _ (Fe _ q) rfl) e,λN y=>?_⟩
 have kk:∀b o,b∉[L+1]->x.heap.get? b=aa o->N.get? b=aa o:=λb o hb e=>y.extBut b o (λq=>‹¬_› (bB.mpr (aY q))) e
 have stC:Step [L+1] l x l {x with heap:=N}:=Step.cA (dr:=x.drawn) (tk:=x.toks) kk (bC y.1.symm)
 show hQ (l.less c.Z) {x with heap:=N} (st.nil.trans ⟨⟨k.ext.z,k.ext.pre,λb o hf hb e=>?_,?_⟩,?_,?_⟩) ((J.cA kk zC).leave Nv) ((F3.ext (I2.go p J F2.kM).sat.fz stC.ext zC λa ha q=>eO a ha (bI.mp q)).leave Nv F1.qo)
 .have e2:=k.ext.keep b o hf (λh=>aF h bc) e
  have P:=dt e
  show kk b o (λq=>?_) (p.ext.keep b o (λf=>?_) hb e2)
  .rw [bI.mp q]at P
   show cq _ (bg P kN)
  .show (k.ext.ft f).elim hf λz=>cq _ (bg P z)
 .show aC k.ext.size (aC p.ext.size (bC y.1.symm))
 .show p.gens.trans k.gens
 .show p.os.trans k.os
end
theorem Nw(h:nP f l a=W (out,b)):out.length<=l.length:=by
 induction l generalizing a out with
 |nil=>show zY _ (cO (L h)) λz=>?_;show bG _
 |cons d r c=>
  obtain⟨⟨y,g⟩,z,h⟩:=e8.mp h
  obtain⟨⟨l,i⟩,e,h⟩:=ej.mp h
  obtain⟨rfl,rfl⟩:=cO h
  have:=c e
  clear e h;induction y
  .show gV this
  .show ek this
section
variable{w:aU}{n:Nat}
theorem Nx(hit:jo w n v)(hi:qx w n c)(he:bA w n e)(pg:k9 v j=U)(Y:mQ p u o=U)(h1:kK p v i=U)(h2:iW ah (en p u.names) j t=U)(h3:eJ (en p u.names) c y=U)(h4:a5 (en p u.names) e el=U)
{E:az->aA->Prop}(I:Inv w g s σ)(F:bo w g s.heap k p l)(hr:eK n b)(hv:ev tb (run n) (eH m o j v c e) l σ=aa (d,σ'))
(fin:∀(out:List D)(H Q:St),(if m then(ak Q.length,Q++[aO out])else(ay out,Q))=(d,σ')->∀(K:G)(M N:aA)(L:aR)(U:List aR)(g':G)(W:aA)(us:Array az)(m':Nat),Step [] g s K M->Inv w K M H->bo w K M.heap k p l->cu M N->(∀a∈L::(L+1)::U,M.heap.objs.size<=a) ->
  Inv w (K.more (L::(L+1)::U)) N H->Step (L::(L+1)::U) (K.more (L::(L+1)::U)) N g' W->Sat w g' W.heap Q->W.heap.get? L=aa (bO us m')->RL w g' W.heap us.toList out->us.size<=2^20->(∃m,W.heap.Ns (L+1) m) ->
  qU (ar pw w) b E use QQ (ao L) (L+1) (fO fD) W):
 aj (ar pw w) b (CK (fV el [⟨t,i,y,0⟩] u z) u k (CL [⟨t,i,y,0⟩] z) (newList []) ah (bw i k) use) QQ E s:=by
 obtain⟨⟨Z,H⟩,e1,hv⟩:=e8.mp hv
 .obtain ⟨⟨out,Q⟩,V,Zg⟩:=ej.mp hv
  show Nl hit pg Y h1 h2 I F hr e1 (λq=>aC (Nw (V:nP (xh n j c e (iZ o l)) Z H=aa (out,Q))) q) (λJ U fp vs eQ Sf L mV N pa R hl P nY hR=>?_) (fin out H Q Zg)
  show Ga (n:=n) (f:=uH n j c e (iZ o l)) (B:=sd y el (ao L) pa) (out:=out) (pre₀:=[]) h2 hr P.W Yb (Ng hi he h3 h4 hr P.Lz P.env) (λd σ r h=>Nf h) (λd ρ' hb=>M1 h2 (λi x d=>Nb Y i x d) hb)
   P.z P.Lz P.Lo P.LC P.Co P.fp P.I P.F P.st P.rl P.cells nY .nil (by simpa using aC (Nw (V:nP (xh n j c e (iZ o l)) Z H=aa (out,Q))) hl) ((Nd Z H).symm.trans (V:nP (xh n j c e (iZ o l)) Z H=aa (out,Q)):lP (uH n j c e (iZ o l)) Z H=aa (out,Q)) hR
theorem Ny(hit:jo w n it)(hi:jo w n k)(he:bA w n l)(P:Fx tg o=U)(pg:k9 it tg=U)(V:k9 k o=U)(W:mQ v u z=U)(h1:kK v it i=U)(h2:iW Y (en v u.names) tg t=U)(h3:kK (en v u.names) k i2=U)(h4:iW Y (en v u.names) o t2=U)(h5:a5 (en v u.names) l el=U)
{E:az->aA->Prop}(I:Inv w g s σ)(F:bo w g s.heap env v y)(hr:eK n c)(hv:ev tb (run n) (t7 z tg it o k l) y σ=aa (d,σ'))
(fin:∀(out:List D)(σ1 σ2:St),(if ah then(ak σ2.length,σ2++[aO out])else(ay out,σ2))=(d,σ')->∀(Q:G)(H K:aA)(L:aR)(N:List aR)(g':G)(U:aA)(us:Array az)(m':Nat),Step [] g s Q H->Inv w Q H σ1->bo w Q H.heap env v y->cu H K->(∀a∈L::(L+1)::N,H.heap.objs.size<=a) ->
  Inv w (Q.more (L::(L+1)::N)) K σ1->Step (L::(L+1)::N) (Q.more (L::(L+1)::N)) K g' U->Sat w g' U.heap σ2->U.heap.get? L=aa (bO us m')->RL w g' U.heap us.toList out->us.size<=2^20->(∃m,U.heap.Ns (L+1) m) ->
  qU (ar pw w) c E use QQ (ao L) (L+1) (fO fD) U):
 aj (ar pw w) c (CK (fV el [⟨t,i,[],0⟩,⟨t2,i2,[],0⟩] u pos) u env (CL [⟨t,i,[],0⟩,⟨t2,i2,[],0⟩] pos) (newList []) ah (bw i env) use) QQ E s:=by
 induction tg<;>first|show ff P|skip
 induction o<;>first|show ff P|skip
 rename_i a b
 obtain⟨⟨ds,σ1⟩,e1,hv⟩:=e8.mp hv
 obtain⟨⟨out,σ2⟩,mT,hv⟩:=e8.mp hv
 obtain⟨hlen,hv⟩:=iff hv
 show cR (cO (aH hv)) λgO mU=>?_;clear hv;obtain rfl:=gO;obtain rfl:=mU
 have Y:∀i x d,(en v u.names)[i]?=aa (x,NameKind.local)->(iZ z y)[i]? ≠aa (aa d):=λi x d=>Nb W i x d
 have Zh:lP (A2 n (bt a) k (bt b) l (iZ z y)) ds σ1=aa (out,σ2):=by
  show iP (aI (λf=>lP f ds σ1) (funext λd=>funext λσ=>?_)) mT
  show((fJ tb (run n) k ((iZ z y).set a (aa d)) σ).bind _)=(fJ tb (run n) k ((iZ z y).set a (aa d)) σ).bind _
  show aI _ (funext λp=>(Nd (f:=xh n (bt b) aT l ((iZ z y).set a (aa d))) p.1 p.2).symm)
 show Nl hit pg W h1 h2 I F hr e1 (λq=>hlen) (λJ N fp vs eQ Sf L mV K Z R hl M nY hR=>?_) (fin out σ1 σ2 rfl)
 show Ga (n:=n) (f:=A2 n (bt a) k (bt b) l (iZ z y)) (B:=xi el [⟨t,i,[],0⟩,⟨t2,i2,[],0⟩] u pos i2 (ao L) Z) (out:=out) (pre₀:=[]) h2 hr M.W Yd (Yh hi he V h3 h4 h5 hr (λd0 ρ0 h0 d ρ' h'=>?_) M.Lz M.env) (λd σ r h=>X9 h) (λd ρ' hb=>M1 h2 Y hb)
  M.z M.Lz M.Lo M.LC M.Co M.fp M.I M.F M.st M.rl M.cells nY .nil hlen Zh hR
 revert h';show iw (aH h0) λh'=>?_
 show iw (aH h') ?_
 show bW h4 λx X hs=>⟨(mj ..).symm,λj d' hj=>?_⟩
 have:b≠j:=λe=>by
  subst e
  rw[mq (bS P)]at hj
  show Y _ _ _ (F9 hs) hj
 rwa[mq this];show hj
theorem Nz(h:a5 b (eH m l j k d g) e=U){P:aX->Prop}(f:∀r t i s o p,k9 k j=U->mQ b o l=U->kK b k i=U->iW Y (en b o.names) j t=U->eJ (en b o.names) d s=U->a5 (en b o.names) g r=U->P (fV r [⟨t,i,s,0⟩] o p)):P e :=
 bW h λq u h=>bW h λc v h=>by
  have a:=au h
  have e:=au (au (au a.2).2).2
  rwa[AE u,Aw v,Fw a.1]
  show f _ _ _ _ _ _ (au a.2).1 (au (au a.2).2).1 e.1 (au e.2).1 (au (au e.2).2).1 (au (au e.2).2).2
theorem NA(h:a5 b (t7 l g k a d j) e=U){P:aX->Prop}(f:∀s t i u v o r,Fx g a=U->k9 k g=U->k9 d a=U->mQ b o l=U->kK b k i=U->iW Y (en b o.names) g t=U->kK (en b o.names) d v=U->iW Y (en b o.names) a u=U->a5 (en b o.names) j s=U->P (fV s [⟨t,i,[],0⟩,⟨u,v,[],0⟩] o r)):P e :=
 bW h λq H h=>bW h λc I h=>by
  have x:=au h
  have y:=au x.2
  have z:=au y.2
  have A:=au z.2
  have B:=au A.2
  have Q:=au B.2
  have p:=au Q.2
  have m:=au (au (au p.2).2).2
  rwa[AE H,uo I,Fw x.1,Fw z.1,kA.mp y.1,kA.mp A.1]
  show f _ _ _ _ _ _ _ B.1 Q.1 p.1 (au p.2).1 (au (au p.2).2).1 m.1 (au m.2).1 (au (au m.2).2).1 (au (au m.2).2).2
theorem Zi(o:jo w n c)(z:qx w n a)(B:bA w n b):bA w n (eH m f j c a b):=λe ns h p ρ g s σ H d A Q E I F J K M=>
 Nz (P:=λe=>aj (ar pw w) A (bw e p) Q E s) h λel t i fs sc N U V W Y Z h6=>by
  show Nx o z B U V W Y Z h6 I F J K λout σ1 σ2 k v x y L own g' s' us m' st I1 F1 G4 ho I4 q l r ru u hn=>Nt k M st I1 F1 G4 ho I4 q l r ru u hn
theorem Zj(o:jo w n f)(z:jo w n a)(B:bA w n b):bA w n (t7 j k f c a b):=λe ns h p ρ g s σ H d A Q E I F J K M=>
 NA (P:=λe=>aj (ar pw w) A (bw e p) Q E s) h λel t i t2 i2 sc N U V W Y Z h6 h7 h8 h9=>by
  show Ny o z B U V W Y Z h6 h7 h8 h9 I F J K λout σ1 σ2 l v x y L own g' s' us m' st I1 F1 G4 ho I4 q m r ru u hn=>Nt l M st I1 F1 G4 ho I4 q m r ru u hn
theorem NB(b:uy a e v=U)(c:AI a t e=U):∃i x p,t= dH i/\e= fE x p/\jK U a i x=U :=
 bW b λz z b=>bW b λq d z=>by
  rw[kJ d]at c
  induction t<;>first|show ff c|show x3 _ _ _ ⟨rfl,kJ d,c⟩
theorem ND{i:Nat}{x:bu}{p:d6}{a:c8}{h:NS}{o e:Fm}{j k:St}{d:D}{A:bK}{E:K->H->Prop}(l:jK U h i x=U)(f:kH tb (run n) (dH i) d o j=W (e,k))(v:K)(b:G)(c:H)(m:Unit->H->Prop)(q:Inv w b c j)(r:bo w b c.heap a h o)(s:R w b c.heap v d)
(t:∀g,Step (fu af a) b c b g->Sat w b g.heap j->bo w b g.heap a h e->m () g):aj (ar pw w) A (vt v ((lz [fE x p] a).map (·.2))) m E c:=by
 cases f
 show aj _ _ (do jA p;qT a x v) m E c
 show ai (gU (vp (r.store q l s t)))
theorem Zk(y:jo w n c)(V:qx w n a)(W:bA w n b):uK w n (eH m f j c a b):=λe v ns t h Y Z l ρ ρ' g s σ o z d A Q E I F hr hv k hQ=>by
 obtain⟨i,x,p,rfl,rfl,B⟩:=NB Y Z
 have e1:o=z:=(cO (aH k)).2
 subst e1
 show Nz (P:=λv=>aj (ar pw w) A (yB v l λv=>vt v ((lz [fE x p] l).map (·.2))) Q E s) h λel t i fs sc pos h1 h2 h3 h4 h5 h6=>
  ai (ed (Nx y V W h1 h2 h3 h4 h5 h6 I F hr hv (QQ:=λX s=>Q () s) λout o σ2 r M N U L own g' s' us m' st I1 F1 G4 ho I4 H u J ru K hn=>Nu (ρ':=ρ') r (λv g2 s2 Q' I2 F2 rv hq=>ND B k v g2 s2 Q' I2 F2 rv hq) hQ st I1 F1 G4 ho I4 H u J ru K hn) (λX X q=>aD q) λX X q=>q)
theorem Zl(y:jo w n f)(V:jo w n a)(W:bA w n b):uK w n (t7 j k f c a b):=λe v ns t h Y Z m ρ ρ' g s σ o z d A Q E I F hr hv l hQ=>by
 obtain⟨i,x,p,rfl,rfl,B⟩:=NB Y Z
 have e1:o=z:=(cO (aH l)).2
 subst e1
 show NA (P:=λv=>aj (ar pw w) A (yB v m λv=>vt v ((lz [fE x p] m).map (·.2))) Q E s) h λel t i t2 i2 sc pos h1 h2 h3 h4 h5 h6 h7 h8 h9=>
  ai (ed (Ny y V W h1 h2 h3 h4 h5 h6 h7 h8 h9 I F hr hv (QQ:=λX s=>Q () s) λout o σ2 r M N U L own g' s' us m' st I1 F1 G4 ho I4 H u J ru K hn=>Nu (ρ':=ρ') r (λv g2 s2 Q' I2 F2 rv hq=>ND B l v g2 s2 Q' I2 F2 rv hq) hQ st I1 F1 G4 ho I4 H u J ru K hn) (λX X q=>aD q) λX X q=>q)
end
theorem Zm(h:qt o=U)(a:bu)(b:c8)(w:eT K):attributeBase o a b w=w:=by
 induction o using jE<;>first|rfl|show ff h
theorem RL.one(r:RL w g h c [x]):∃v,c=[v]/\R w g h v x:=eX r λv z e a b=>⟨v,e.trans (aI (v:: ·) b),a⟩
theorem RL.two(r:RL w g h d [x,y]):∃v u,d=[v,u]/\R w g h v x/\R w g h u y:=eX r λv z e a b=>aV (RL.one b) λu f c=>x2 v u ⟨e.trans (aI (v:: ·) f),a,c⟩
section
variable{w:aU}{A:bK}{E:az->aA->Prop}{s:aA}{g:G}{env:c8}{ns:NS}{σ:St}
theorem GJ(h:mP c e=W (o,b))(u:eJ ns l b=U)
(v:aj (ar pw w) A (bw o env) (λp f=>∀(y:eT Bool)(d:d6),aj (ar pw w) A (sQ p (a0 c) y) (λq i=>aj (ar pw w) A (yy d q.1 q.2 (jz d (ib b env)) (vq d (vr [] env))) a E i) E f) E s):
 aj (ar pw w) A (bw e env) a E s:=by
 show Rz e (Fu h) λz d H t B=>?_
 rwa[arm_eval_Call,Zm B]
 show ai (ed v (λp f k=>ai (gU ?_)) λg g e=>e)
 have j:methodCallForm (b.length+([]:List Keyword).length) (jz d (ib b env)) (vq d (vr [] env))=af:=by
  unfold methodCallForm
  have:=uD env u d
  simp only[eu,bQ,decide_eq_true_eq]
  show⟨⟨λx r=>?_,λx r=>by cases r⟩,by show b.length+0+_<30;split<;>(first|show bY ‹_› (br ..)|show bg ‹_› (br ..)|lia)⟩
  have:=List.any_eq_false.mp this x r
  simpa using this
 have m:methodCallPos af o env z d=bx d:=by unfold methodCallPos;show aJ ‹_›
 unfold methodCall
 rwa[j]
 show aj _ _ (ie [p] (sQ p (a0 c) _)>>=_) a E f
 show ai (cU (ed (k _ d) (λq i n=>?_) λg g e=>e))
 show ai (yD m n)
noncomputable def NF:BM->String
 |.append=> "list.append" |.extend=> "list.extend" |.pop=> "list.pop" |.qf=> "list.pop" |.oN=> "dict.pop" |.index=> "list.index" |.get=> "dict.get" |.rM=> "dict.setdefault" |.isspace=> "str.isspace"
theorem NG(h:o.isSome=U):∃a,o=W a:=fF.mp h
theorem uL(h:nM d=W l):d= ay l:=by induction d using bJ<;>first|show nn h|show aI _ (L h)
theorem A9(h:qi d=W l):d= dG l:=by induction d using bJ<;>first|show nn h|show aI _ (L h)
theorem Zn(I:Inv w g s σ)(r:R w g s.heap v d)(h:wR f (look σ d)=U)(k:c (bM (NF f),[v]) s):
 V (ar pw w) A (sQ v (a0 (Fv f)) i) c E s:=by
 have j:∀{name:bu}{id:String},(nM (look σ d)).isSome=U->Slot "list" name id->oi (bM id)=bx (aZ "method_descriptor")->c (bM id,[v]) s->V (ar pw w) A (sQ v name i) c E s:=λq u y z=>by
  show dM (NG q) λl q=>?_
  clear k;show oL (jL I r (uL q)) λa H n p B Z=>?_;clear r;obtain rfl:=p
  show yE (T:= "list") ⟨_,B,rfl⟩ PySem.F.plainAttrs_list u y (λb e=>by cases e;show⟨_,B,rfl⟩) z
 have o:∀{name:bu}{id:String},(qi (look σ d)).isSome=U->Slot "dict" name id->oi (bM id)=bx (aZ "method_descriptor")->c (bM id,[v]) s->V (ar pw w) A (sQ v name i) c E s:=λq u y z=>by
  show dM (NG q) λl q=>?_
  clear j k;show oL (qp I r (A9 q)) λa J n p Z m=>?_;clear r;obtain rfl:=p
  show yE m.typeIs J8 u y (λb e=>by cases e;show⟨_,m.at_,rfl⟩) z
 induction f with
 |append=>show j (name:=a0 "append") (id:= "list.append") h PySem.F.slot_list_append PySem.F.type_list_append k
 |extend=>show j (name:=a0 "extend") (id:= "list.extend") h JY PySem.F.type_list_extend k
 |pop=>show j (name:=a0 "pop") (id:= "list.pop") h zK J9 k
 |qf=>show j (name:=a0 "pop") (id:= "list.pop") h zK J9 k
 |index=>show j (name:=a0 "index") (id:= "list.index") h JW PySem.F.type_list_index k
 |oN=>show o (name:=a0 "pop") (id:= "dict.pop") h J1 PySem.F.type_dict_pop k
 |get=>show o (name:=a0 "get") (id:= "dict.get") h JZ PySem.F.type_dict_get k
 |rM=>show o (name:=a0 "setdefault") (id:= "dict.setdefault") h J0 PySem.F.type_dict_setdefault k
 |isspace=>
  generalize q:look σ d=x at h
  induction x using bJ<;>first|show ff h|skip
  clear j o;revert k;show ee v (nT r q) λt Z k=>?_
  show yE (T:= "str") (name:=a0 "isspace") (id:= "str.isspace") (CA _ _ _) PySem.F.plainAttrs_str PySem.F.slot_str_isspace PySem.F.type_str_isspace (λa e=>by cases e) k
theorem Zo(h:cw a k=N)(c:∀i,cW a k=W i->i<a.length):cp a k v=a++[(k,v)]:=by
 unfold cp
 generalize q:cW a k=b;induction b with
 |none=>rfl
 |some i=>
  exfalso
  unfold cw at h
  rw[q]at h
  have:=c i q
  simp[dn this]at h
theorem Zp:(bE 127).all (λc=>I (c<33)|| !Unicode.isSpace c)=U:=by decide +kernel
theorem Zq(h:lO σ o=W q):o= ak q.1/\σ[q.1]?=W (aO q.2):=by
 induction o using bJ<;>first|show nn h|skip
 rename_i n
 have h:(match σ[n]? with|some (aO l)=>W (n,l)|_=>N)=W q:=h
 generalize e:σ[n]?=a;induction a with
 |none=>rw[e]at h;show nn h
 |some x=>
  rw[e]at h
  induction x<;>first|show nn h|skip
  rwa[<-L h];show⟨rfl,e⟩
theorem Zr(h:oP σ o=W q):o= ak q.1/\σ[q.1]?=W (a8 q.2):=by
 induction o using bJ<;>first|show nn h|skip
 rename_i n
 have h:(match σ[n]? with|some (a8 l)=>W (n,l)|_=>N)=W q:=h
 generalize e:σ[n]?=a;induction a with
 |none=>rw[e]at h;show nn h
 |some x=>
  rw[e]at h
  induction x<;>first|show nn h|skip
  rwa[<-L h];show⟨rfl,e⟩
theorem Zs(I:Inv w g s σ)(f:R w g s.heap v o)(h:lO σ o=W q):∃a b m,v= M a/\g.θ[q.1]?=W (a,a)/\s.heap.get? a=W (bO b m)/\b.size<=2^20/\RL w g s.heap b.toList q.2:=by
 show cR (Zq h) λc i=>?_;clear h;obtain rfl:=c
 show mx v f λa j d=>?_
 show ix (I.sat.obj _ _ _ d i) λb m e k l n=>?_
 obtain rfl:j=a:=e
 show x3 _ b m ⟨rfl,d,k,l,n⟩
theorem Zt(I:Inv w g s σ)(b:R w g s.heap v o)(h:oP σ o=W q):∃a c m,v= M a/\g.θ[q.1]?=W (a,a)/\DictAt w g s.heap a c m q.2:=by
 revert b;show zX o (Zr h) λf b=>?_
 show mx v b λa i d=>?_
 show nI (I.sat.obj _ _ _ d f) λc m e j k l n=>?_
 obtain rfl:i=a:=e
 show x3 _ c m ⟨rfl,d,j,k,l,n⟩
section
variable{a:aR}{n:Nat}{h':b0}{d:D}{v:az}{Q:az->aA->Prop}(I:Inv w g s σ)(hn:g.θ[n]?=aa (a,a))(hs:gp a s.heap h')
include I hn hs
theorem PE.Ba(j:PE w g s (σ.set n (aO l)) d Q)(k:h'.get? a=W (bO c m))(p:c.size<=2^20)(q:RL w g s.heap c.toList l)(r:R w g s.heap v d)(i:Nat):Q v {s with heap:=h',toks:=i} :=
 have f:∀b o,b≠a->b≠a->s.heap.get? b=W o->h'.get? b=W o:=λb o t z e=>hs.extBut b o t e
 have h:=I.upd (o':= aO l) (dr:=s.drawn) i hn f (bC hs.1.symm) (x2 c m ⟨rfl,k,p,q.upd hn f⟩)
 j v g _ h.1 h.2 (r.upd hn f)
theorem PE.NH{l:List (D×D)}{c:List fg}{m:Nat}(k:PE w g s (σ.set n (a8 l)) d Q)(p:h'.get? a=W (eb c m))(q:c.length<=2^20)(r:(l.map (·.1)).Nodup)(t:RE w g s.heap c l)(u:R w g s.heap v d)(j:Nat):Q v {s with heap:=h',toks:=j} :=
 have i:∀b o,b≠a->b≠a->s.heap.get? b=W o->h'.get? b=W o:=λb o f z e=>hs.extBut b o f e
 have h:=I.upd (o':= a8 l) (dr:=s.drawn) j hn i (bC hs.1.symm) (x2 c m ⟨rfl,p,q,r,t.move (λb o f e=>i b o (lW hn f).1 (lW hn f).2 e) (λz x z=>x) λz z e=>e⟩)
 k v g _ h.1 h.2 (u.upd hn i)
end
theorem Zu(h:a1 l=W x):l=[x]:=by
 induction l using bH with
 |nil=>show nn h
 |cons a l=>induction l using bH with
  |nil=>show aI (λx=>[x]) (L h)
  |cons=>show nn h
theorem Zv(h:a2 l=W x):l=[x.1,x.2]:=by
 induction l using bH with
 |nil=>show nn h
 |cons a l=>induction l using bH with
  |nil=>show nn h
  |cons b l=>induction l using bH with
   |nil=>show aI (λx=>[x.1,x.2]) (L h)
   |cons=>show nn h
theorem RL.last(c:RL w g h b l)(f:l.getLast? =W r):∃i y,b=i++[y]/\RL w g h i l.dropLast/\R w g h y r:=by
 induction l generalizing b with
 |nil=>show nn f
 |cons d l j=>
  obtain⟨v,i,rfl,a,c⟩:=c
  induction l using bH with
  |nil=>clear j;show iw (L f) ?_;show x2 ([]) v ⟨aI (v:: ·) c,rfl,a⟩
  |cons e l=>
   show my i (j c (by rw[List.getLast?_cons_cons]at f;show f)) λk y m n=>?_
   show x2 (v::k) y ⟨rfl,⟨v,_,rfl,a,m⟩,n⟩
theorem Zw(a:EJ x=W d):d= aM Y/\Txt.isspace x=Y:=by
 unfold EJ at a
 generalize b:x.cps.toList=f;induction f with
 |nil=>rw[b]at a;show nn a
 |cons c l=>
  induction l using bH with
  |cons=>rw[b]at a;show nn a
  |nil=>
   rw[b]at a
   show fI (a) λh e=>?_
   show⟨(L e).symm,?_⟩
   have i:x.cps=#[c]:=by apply p5.mp;rwa[b]
   have:=bQ.mp Zp c (fM.mpr (by lia))
   rw[iI,decide_eq_true_eq,sN]at this
   unfold Txt.isspace
   rwa[i]
   simp[this.resolve_left (by lia)]
theorem PE.of(h:(a,d)=(b,e))(f:PE w g s e b c):PE w g s d a c:=by cases h;show f
theorem PE.xp(h:W (a,d)=W (b,e))(f:PE w g s e b c):PE w g s d a c:=.of (L h) f
section
variable{h:b0}{vs:List az}{ds:List D}{P:List az->Prop}
theorem xq(e:a1 ds=W x)(a:RL w g h vs ds)(k:∀v,R w g h v x->P [v]):P vs:=by
 show ee vs (RL.one (Zu e▸a)) λv r=>?_;show k v r
theorem Zx(e:a2 ds=W x)(a:RL w g h vs ds)(k:∀v u,R w g h v x.1->R w g h u x.2->P [v,u]):P vs:=by
 show my vs (RL.two (Zv e▸a)) λv u r b=>?_;show k v u r b
end
section
variable{P:az->Prop}{v:az}{o:D}
theorem Bb(I:Inv w g s σ)(d:R w g s.heap v o)(h:lO σ o=W q)(k:∀a b m,g.θ[q.1]?=W (a,a)->s.heap.get? a=W (bO b m)->b.size<=2^20->RL w g s.heap b.toList q.2->P (M a)):P v:=by
 show k4 (Zs I d h) λa b m c e f i j=>?_;clear d;obtain rfl:=c;show k a b m e f i j
theorem NI(I:Inv w g s σ)(d:R w g s.heap v o)(h:oP σ o=W q)(k:∀a b m,g.θ[q.1]?=W (a,a)->DictAt w g s.heap a b m q.2->P (M a)):P v:=by
 show oL (Zt I d h) λa b m c e D=>?_;clear d;obtain rfl:=c;show k a b m e D
end
section
variable{v:az}{vs:List az}{d r:D}{ds:List D}{σ':St}{Q:az->aA->Prop}(hu:A.units+300<cv)(I:Inv w g s σ)(rv:R w g s.heap v d)(rl:RL w g s.heap vs ds)(hQ:PE w g s σ' r Q)
include I rv rl hQ
theorem Zy(h:f5 iC d ds σ=W (r,σ')):V (Z pw w) A (b9 (bM "list.append") (v::vs) []) Q E s :=
 bU h λz e h=>bU h λz i h=>fI h λb h=>xq (P:=λvs=>V (Z pw w) A (b9 (bM "list.append") (v::vs) []) Q E s) e rl λz j=>Bb (P:=λv=>V (Z pw w) A (b9 (bM "list.append") [v,_] []) Q E s) I rv i λz k z l m z a=>
  have b:k.size<2^20:=by rwa[a.f9];show b
  Lk m b λz z c f=>PE.Ba I l c (.xp h hQ) f (by rwa[wg];show b) (by rwa[tD];show a.append (.cons j .nil)) .none _
theorem Zz(h:f5 qn d ds σ=W (r,σ')):V (Z pw w) A (b9 (bM "list.extend") (v::vs) []) Q E s :=
 bU h λg e h=>bU h λg m h=>bU h λg n h=>fI h λo h=>xq (P:=λvs=>V (Z pw w) A (b9 (bM "list.extend") (v::vs) []) Q E s) e rl λg l=>Bb (P:=λv=>V (Z pw w) A (b9 (bM "list.extend") [v,_] []) Q E s) I rv m λg p g q t g a=>by
  show mz (jL I l (uL n)) λb u y i x g c=>?_;clear l;obtain rfl:=i
  have f:p.size+u.size<=2^20:=by rwa[a.f9,c.f9];show o.1
  show SQ t x f λz B j k=>PE.Ba I q j (.xp h hQ) k (by rwa[JR];show f) (by rwa[Array.toList_append];show a.append c) .none _
theorem ZA(h:f5 .pop d ds σ=W (r,σ')):V (Z pw w) A (b9 (bM "list.pop") (v::vs) []) Q E s :=
 fI h λe h=>bU h λg o h=>eG h λg p q=>by
  clear h;subst e
  obtain rfl:=rl
  show Bb (P:=λv=>V (Z pw w) A (b9 (bM "list.pop") [v] []) Q E s) I rv o λa t m u x b c=>?_
  show eX (c.last p) λl y f i z=>?_
  clear c;obtain rfl:t=(l++[y]).toArray:=by rwa[<-f]
  have n:l.length+1<=2^20:=by rw[ot,cF]at b;show b
  show SO x n λB H j k=>PE.Ba I u j (.of q hQ) k (mh n) i z _
theorem ZC(h:f5 .qf d ds σ=W (r,σ')):V (Z pw w) A (b9 (bM "list.pop") (v::vs) []) Q E s :=
 fI h λe h=>bU h λq u h=>eG h λg p f=>by
  clear h;subst e
  obtain⟨L,rfl,⟨t,rfl⟩⟩:=rl.one
  show Bb (P:=λv=>V (Z pw w) A (b9 (bM "list.pop") [v,_] []) Q E s) I rv u λa x m B H b c=>?_
  obtain⟨i,l⟩:=q
  induction l using bH with
  |nil=>show nn p
  |cons z l=>
   revert f;show iw (aH p) λf=>?_
   show eX (c) λy J j K k=>?_
   clear c;obtain rfl:x=(y::J).toArray:=by rwa[<-j]
   show SP H b λM N n o=>PE.Ba I B n (.of f hQ) o (mh b) k K _
include hu
theorem ZD(h:f5 .oN d ds σ=W (r,σ')):V (Z pw w) A (b9 (bM "dict.pop") (v::vs) []) Q E s :=
 bU h λk e h=>bU h λg p h=>fI h λb h=>eG h λg m h=>xq (P:=λvs=>V (Z pw w) A (b9 (bM "dict.pop") (v::vs) []) Q E s) e rl λn o=>NI (P:=λv=>V (Z pw w) A (b9 (bM "dict.pop") [v,_] []) Q E s) I rv p λg g g x D=>by
  have c:(keyPart n).isSome=U:=by
   have q:=b.2
   clear b m e h;cases k<;>first|show aF q (vC rfl)|(show gu n o λt=>?_;rfl)
  show SU (by lia) D o c b.1 m λu B y H z f i a j l=>PE.NH I x f (.of h hQ) i a j l z _
theorem ZE(h:f5 lQ d ds σ=W (r,σ')):V (Z pw w) A (b9 (bM "list.index") (v::vs) []) Q E s :=
 bU h λz e h=>bU h λz i h=>fI h λb h=>eG h λz j h=>xq (P:=λvs=>V (Z pw w) A (b9 (bM "list.index") (v::vs) []) Q E s) e rl λz k=>by
  rw[uL i]at rv
  show tQ v rv λa n m l z c f=>?_
  show SM (by lia) l f k b c j ((PE.of h hQ).here I (.int _ _) _)
theorem ZF(h:f5 .get d ds σ=W (r,σ')):V (Z pw w) A (b9 (bM "dict.get") (v::vs) []) Q E s :=
 bU h λz e h=>bU h λz b h=>fI h λc h=>xq (P:=λvs=>V (Z pw w) A (b9 (bM "dict.get") (v::vs) []) Q E s) e rl λz f=>by
  show Ez v (qp I rv (A9 b)) λa k n i m=>?_
  show SR (by lia) i m f c λu j=>(PE.xp h hQ).here I j _
theorem ZG(h:f5 t9 d ds σ=W (r,σ')):V (Z pw w) A (b9 (bM "dict.setdefault") (v::vs) []) Q E s :=
 bU h λp e h=>bU h λg y h=>fI h λo h=>Zx (P:=λvs=>V (Z pw w) A (b9 (bM "dict.setdefault") (v::vs) []) Q E s) e rl λK L z q=>NI (P:=λv=>V (Z pw w) A (b9 (bM "dict.setdefault") [v,_,_] []) Q E s) I rv y λa g g t D=>by
  clear e;obtain⟨k,x⟩:=p
  show SS (by lia) (beq_eq_false_iff_ne.mpr λe=>aF w2 (i8.mpr (e▸I.hi a (aY ⟨_,cN t,aY rfl⟩))):(a==jw)=Y) D z q o.1 o.2 (λu M f B=>?_) λb N H U j l c m n=>?_
  .dsimp only at h;rw[f]at h
   show(PE.xp h hQ).here I B _
  .dsimp only at h;rw[b,Zo b λi J=>let⟨_,hv⟩:=kF J;(cD.mp hv).1]at h
   show PE.NH I t j (.xp h hQ) l c m n q _
omit hu in
theorem ZH(h:f5 .isspace d ds σ=W (r,σ')):V (Z pw w) A (b9 (bM "str.isspace") (v::vs) []) Q E s:=by
 show cR (iff h) λb h=>?_;obtain rfl:=b
 obtain rfl:=rl
 obtain⟨x,rfl⟩:∃x,d= bl x:=by clear rv;induction d using bJ<;>first|show nn h|show⟨_,rfl⟩
 show eG h λf c h=>?_
 show ee v rv λt i=>?_
 revert h;show zX _ (Zw c) λe h=>?_
 have a:=PySem.SC.isspace (prog:=pw) (w:=w) (A:=A) (E:=E) (s:=s) (x:=x) (t:=t) (Q:=Q)
 rw[e]at a
 show a ((PE.of h hQ).same I (.bool _))
theorem ZI(h:f5 f d ds σ=W (r,σ')):V (Z pw w) A (b9 (bM (NF f)) (v::vs) []) Q E s:=by
 induction f with
 |append=>show Zy I rv rl hQ h
 |extend=>show Zz I rv rl hQ h
 |pop=>show ZA I rv rl hQ h
 |qf=>show ZC I rv rl hQ h
 |oN=>show ZD hu I rv rl hQ h
 |index=>show ZE hu I rv rl hQ h
 |get=>show ZF hu I rv rl hQ h
 |rM=>show ZG hu I rv rl hQ h
 |isspace=>show ZH I rv rl hQ h
end
end
section
variable{w:aU}{n:Nat}
theorem ZJ(t:bA w n o)(u:nX w n l):bA w n (gL f o l):=λe q h x P g s U y d A Q E I F k m z=>bW h λ⟨B,i⟩ hp h=>We m λV H W J K p L m=>
 GJ hp (au h).2 (t B q (au h).1 I F k K λv Y Z a b r pl M=>Zn (I.bz a b) r p
  (MR (λX e=>by cases e) (au h).2 (u i q (au h).2 (I.bz a b) (F.step I a) k L λvs g2 s2 c j N=>ZI k.in1 ((I.bz a b).bz c j) (r.ext c.ext (λX h=>aF h bc)) N ((z.step a).step c) m)))
end
section
variable{w:aU}{g:G}{A:bK}{E:az->aA->Prop}{s:aA}{σ:St}{Q:az->aA->Prop}
theorem PE.kept(I:Inv w g s σ)(i:PE w g s σ d Q)(k:∀b o,s.heap.get? b=W o->a.get? b=W o)(j:s.heap.objs.size<=a.objs.size)(r:R w g a v d):Q v {s with heap:=a,drawn:=c,toks:=f} :=
 i v g _ (Step.cA (λb o z e=>k b o e) j) (I.sat.cA (fr:=[]) (λb o z e=>k b o e) (λz h=>aF h bc)) r
theorem RL.kept(k:∀b o,h.get? b=W o->c.get? b=W o)(r:RL w g h vs a):RL w g c vs a:=r.cA (fr:=[]) (λb o z e=>k b o e) (λz h=>aF h bc)
theorem xr(I:Inv w g s σ){a:aR}(h:s.heap.objs.size<=a):¬g.Mt a:=λq=>cq _ (bg (I.mO a q) h)
theorem NJ{h c:b0}{a:aR}(b:h.objs.size<=a)(e:c.get? a=W o):h.objs.size<=c.objs.size:=P b (eL (dt e))
theorem ints_of(r:RL w g h c b)(j:∀d∈b,∃i,d= aq i):∃f:List (Int×Tok),c=f.map (λp=>bL p.1 p.2)/\b=f.map λp=>aq p.1:=by
 induction b generalizing c with
 |nil=>show⟨[],r,rfl⟩
 |cons d b l=>
  obtain⟨v,m,rfl,a,r⟩:=r
  show bR (l r λd h=>j d (bq _ h)) λf e k=>?_;clear l r;obtain rfl:=e;obtain rfl:=k
  show dM (j _ a7) λi e=>?_;clear j;obtain rfl:=e
  show gu v a λt=>?_
  show⟨(i,t)::f,rfl,rfl⟩
theorem ZK(h:qh a=W j):∀d∈a,∃i,d= aq i:=by
 induction a generalizing j with
 |nil=>showλz h=>aF h bc
 |cons e r b=>
  induction e using bJ with
  |int i=>
   show eG ((show gj _ (qh r)=_ from h)) λk c z=>?_
   showλd f=>(bB.mp f).elim (λe=>⟨i,e⟩) (b c d)
  |_=>show nn h
theorem ZL(a:List (Int×Tok)):qh (a.map λp=>aq p.1)=W (a.map (·.1)).sum:=by
 induction a with
 |nil=>rfl
 |cons p r b=>show(qh (r.map λp=>aq p.1)).map _=_;rwa[b];rfl
theorem ZM(h:maxD a=W j):(∀d∈a,∃i,d= aq i)/\aq j∈a/\∀i,aq i∈a->i<=j:=by
 induction a generalizing j with
 |nil=>show nn h
 |cons e r o=>
  induction e using bJ with
  |int i=>
   induction r using bH with
   |nil=>
    show iw (L h) ?_
    show⟨λd c=>⟨i,bI.mp c⟩,a7,λk f=>Int.le_of_eq (D.int.inj (bI.mp f))⟩
   |cons e r=>
    show eG ((show gj (λj=>if i<j then j else i) (maxD (e::r))=_ from h)) λk f b=>?_
    show a3 (o f) λp t u=>?_
    show⟨λd c=>(bB.mp c).elim (λe=>⟨i,e⟩) (p d),?_,λm l=>?_⟩
    .by_cases q:i<k
     .rw [aJ q]at b;show b▸bq _ t
     .rw [aL q]at b;show b▸a7
    .have n:i<=j/\k<=j:=by
      by_cases q:i<k
      .rw [aJ q]at b;show b▸⟨DJ q,p0 _⟩
      .rw [aL q]at b;show b▸⟨p0 _,nE.mp q⟩
     show(bB.mp l).elim (λe=>D.int.inj e▸n.1) λl=>tC (u m l) n.2
  |_=>show nn h
theorem NK(a:List (Int×Tok)):(yF a.toArray).toList=a.map λp=>bL p.1 p.2:=by simp[yF]
theorem ZN(h:Ln i=W t):wk i=t.toString/\a0 (wk i)=t/\gJ t=U/\i.natAbs.log2<1920:=by
 .show fI (h) λb h=>?_
  obtain rfl:=L h
  clear h;show dM (Int.eq_ofNat_of_zero_le b.1) λk a=>?_;clear h;obtain rfl:=a
  have c:k<10:=yV ((pY (n:=9)).mp b.2)
  have:(bE 10).all (λk=>I (wk (k:Int)=(jX [((k:Int)+48).toNat]).toString/\a0 (wk (k:Int))=jX [((k:Int)+48).toNat]/\gJ (jX [((k:Int)+48).toNat])=U/\((k:Int)).natAbs.log2<1920))=U:=by decide +kernel
  show bS (bQ.mp this k (fM.mpr c))
noncomputable def bfV:BF->K
 |.len=> bM "len" |.tuple=> aZ "tuple" |.sum=> bM "sum" |.max=> bM "max" |.list=> aZ "list" |.dict=> aZ "dict" |.int=> aZ "int" |.str=> aZ "str" |_=> bM "sorted"
theorem ZO(I:Inv w g s σ)(c:R w g s.heap v d)(h:eY dO σ d=W r)(b:PE w g s σ r Q):V (Z pw w) A (b9 (bM "len") [v] []) Q E s:=by
 have h:mG dO (look σ d)=W r:=h
 generalize q:look σ d=x at h
 induction x using bJ with
 |tup l=>
  revert b;show iw (L h) λb=>?_
  obtain⟨z,a,k,n,rfl,e,f,i⟩:=lR c q
  rw[<-i.f9]at b
  show S2 e f λt m=>b.here I (.int _ _) _
 |lst l=>
  obtain rfl:=L h
  show mz (jL I c q) λa k n j e f i=>?_;clear c;obtain rfl:=j
  rw[<-i.f9]at b
  show S3 e f λt m=>b.here I (.int _ _) _
 |str x=>
  show ee v (nT c q) λt z=>?_
  show fI (h) λo h=>?_
  revert b;show iw (L h) λb=>?_
  have p:x.cps.size<2^20:=o
  show PySem.P.len_str (by show¬((x.cps.size:Nat):Int)>=_;lia) (b.here I (.int _ _) _)
 |_=>show nn h
theorem NL(i:s.heap.get? l=W (bO d m))(j:d.size<=fL)(h:∀e,(∀b f,s.heap.get? b=W f->e.get? b=W f)->s.heap.objs.size<=e.objs.size->a d.toList {s with heap:=e}):
 V (Z c w) A (vu (M l)) a E s:=j5 (wpAny_collect_seq l (aY rfl) i rfl rfl (λe k n=>h e k n) j)
theorem ZP(y:s.heap.get? l=W (bO a m))(z:a.size<=fL)
(h:∀c:b0,(∀b f,s.heap.get? b=aa f->c.get? b=aa f)->s.heap.objs.size<=c.objs.size->Q (ao c.objs.size) {s with heap:=c.push (cP a 0)}):aj (ar pw w) A (b9 (aZ "tuple") [ao l]) Q E s:=by
 show callType_new PySem.F.called_tuple (by rfl) (PySem.F.typeCall_tuple_1 _) (PySem.F.newCall_tuple_1 _) (λp=>Ka p _) PySem.F.entry_tuple_new
  (S:=λZ R s=>s.heap.get? l=aa (bO a m)/\∀c:b0,(∀b f,s.heap.get? b=aa f->c.get? b=aa f)->s.heap.objs.size<=c.objs.size->R (fO (il (ao c.objs.size))) {s with heap:=c.push (cP a 0)})
  (.of_wp λi w A R s h=>?_) ⟨y,λc k q=>⟨⟨_,dQ _ rfl,rfl⟩,h c k q⟩⟩
 obtain⟨j,g,d,n,o⟩:=s;obtain⟨r,h⟩:=h
 have x:=sub_tuple_self
 have t:=init_tuple_lookup
 have B:=madeHere_tuple
 have H:wm ⟨j,g,d,n,o⟩ (ao l) "list" :=⟨_,r,rfl⟩
 have u:∀{A:bK}{E:az->aA->Prop}{P:List az->aA->Prop},(∀c:b0,(∀b f,j.get? b=aa f->c.get? b=aa f)->j.objs.size<=c.objs.size->P a.toList ⟨c,g,d,n,o⟩)->aj (ar i w) A (vu (ao l)) P E ⟨j,g,d,n,o⟩:=λh=>NL (s:=⟨j,g,d,n,o⟩) r z h
 wp_walk using wpAny_loadPart' r,nf H,u
 intro c I q
 show aj _ _ (Kr a.toList.toArray>>=λv=>ret v) _ _ _
 show ai (ng ?_ (by show a.toList.toArray.size<=fL;assumption))
 show aD ⟨_,rfl,?_⟩
 have e:a.toList.toArray=a:=by simp
 show h c I q
theorem ZQ(I:Inv w g s σ)(c:R w g s.heap v d)(h:eY gM σ d=W r)(p:PE w g s σ r Q):V (Z pw w) A (b9 (aZ "tuple") [v] []) Q E s:=by
 have h:mG gM (look σ d)=W r:=h
 generalize q:look σ d=x at h
 induction x using bJ with
 |tup l=>
  obtain rfl:=L h
  clear h;obtain⟨rfl,a,f,n,rfl,i,t,u⟩:=lR c q
  show call_tuple_same (items:=f) ⟨_,i,rfl,n,rfl⟩ (p.same I c)
 |lst l=>
  obtain rfl:=L h
  show mz (jL I c q) λa f n j i t u=>?_;clear c;obtain rfl:=j
  show j5 (ZP i (by show P ‹_› (by show br ..)) λz k B m=>?_)
  have y:∀b o,s.heap.get? b=W o->(z.push (cP f 0)).get? b=W o:=λb o e=>dF _ (k b o e)
  show p.kept I y m (.tup (dQ _ rfl) (xr I B) t (u.kept y))
 |_=>show nn h
theorem ZR(I:Inv w g s σ)(c:R w g s.heap v d)(h:eY .list σ d=W r)(e:PE w g s σ r Q):V (Z pw w) A (b9 (aZ "list") [v] []) Q E s:=by
 have h:mG .list (look σ d)=W r:=h
 generalize q:look σ d=x at h
 induction x using bJ with
 |tup l=>
  obtain rfl:=L h
  clear h;obtain⟨rfl,a,m,n,rfl,f,i,j⟩:=lR c q
  show call_list_seq a (T:= "tuple") (aW rfl) f rfl rfl (λo p k b=>?_) (P ‹_› (aQ rfl))
  show e.kept I k (NJ (bG _) b) (.lst b (xr I (bG _)) i (j.kept k))
 |_=>show nn h
theorem ZS(o:A.handled=N)(I:Inv w g s σ)(i:R w g s.heap v d)(h:eY .sum σ d=W r)(p:PE w g s σ r Q):V (Z pw w) A (b9 (bM "sum") [v] []) Q E s:=by
 obtain⟨l,q,h⟩:=jj h
 obtain⟨j,c,rfl⟩:=fX h
 show mz (jL I i (uL q)) λa t n e u x m=>?_;clear i;obtain rfl:=e
 clear q;obtain⟨y,b,rfl⟩:=ints_of m (ZK c)
 have z:t=yF y.toArray:=by apply p5.mp;rwa[b,NK]
 clear x b m;subst z
 rw[ZL]at c
 clear h;cases c
 show j5 (sum_intListG o ⟨_,u,rfl,n,rfl⟩ λB H J k f=>?_)
 rwa[preSum_eq,vK (by simp)]
 show p.kept I k f (.int _ _)
theorem ZT(M:A.handled=ae)(I:Inv w g s σ)(N:R w g s.heap v d)(h:eY .max σ d=aa r)(x:PE w g s σ r Q):aj (ar pw w) A (b9 (bM "max") [v] []) Q E s:=by
 obtain⟨l,q,h⟩:=jj h
 revert x;show ct r (fX h) λj J x=>?_
 show wA v (jL I N (uL q)) λa P n U V K=>?_
 show a3 (ZM J) λW y z=>?_
 clear J q h;revert y z;show z0 l (ints_of K W) λb f y z=>?_
 have Y:P=yF b.toArray:=by apply p5.mp;rwa[f,NK]
 clear V f K;subst Y
 show fW (y) λp Z e=>?_
 obtain⟨i,c,rfl⟩:=List.getElem_of_mem Z
 have m:∀i (c:i<b.length),pI b.toArray i=b[i].1:=λi c=>by simp[pI,c]
 show j5 (max_intList M ⟨_,U,rfl,n,rfl⟩ (by show 0<b.length;show yW ‹_›) λu h' tk L k B=>?_)
 show dM (intItems_at L) λt H=>?_;clear L;obtain rfl:=H
 have hs:b.toArray.size=b.length:=rfl
 show cR (argBest_gt (pI b.toArray) (b.toArray.size-1)) λb1 b2=>?_
 have o:argBest (λi j=>aK (pI b.toArray i>pI b.toArray j)) (b.toArray.size-1)<b.length:=bY b1 (s7 (yW c) s8)
 have e:pI b.toArray (argBest (λi j=>aK (pI b.toArray i>pI b.toArray j)) (b.toArray.size-1))=j :=
  Int.le_antisymm (z _ (b3.mpr ⟨b[_],te o,aI aq (m _ o).symm⟩)) (D.int.inj e▸m i c▸b2 i (yX c))
 rwa[e]
 show x.kept I k B (.int _ _)
theorem ZU(I:Inv w g s σ)(c:R w g s.heap v d)(h:eY .str σ d=W r)(a:PE w g s σ r Q):V (Z pw w) A (b9 (aZ "str") [v] []) Q E s:=by
 have h:mG .str (look σ d)=W r:=h
 generalize q:look σ d=x at h
 induction x using bJ with
 |int i=>
  show dM (rW c q) λu b=>?_;clear c;obtain rfl:=b
  revert a;show ct r (fX h) λt e a=>?_
  show a4 (ZN e) λl f j k=>?_
  show PySem.P.str_of_int k ?_
  rwa[(f:(wk i:bu)=t)]
  show a.here I (.str _ _ j) _
 |_=>show nn h
theorem ZV(I:Inv w g s σ)(c:R w g s.heap v d)(h:eY t8 σ d=W r)(b:PE w g s σ r Q):V (Z pw w) A (b9 (bM "isinstance") [v,aZ "tuple"] []) Q E s:=by
 have h:mG t8 (look σ d)=W r:=h
 generalize q:look σ d=x at h
 induction x using bJ with
 |tup l=>
  obtain rfl:=L h
  clear h;obtain⟨rfl,a,f,n,rfl,e,j,k⟩:=lR c q
  show PySem.IsiPair.tuple_tuple e rfl (b.same I (.bool _))
 |int i=>
  obtain rfl:=L h
  show gu v (rW c q) λu=>?_
  show PySem.IsiPair.int_tuple (b.here I (.bool _) _)
 |bool i=>
  obtain rfl:=L h
  rw[U0 q]at c;obtain rfl:=c
  show PySem.IsiPair.bool_tuple (b.here I (.bool _) _)
 |str i=>
  revert b;show iw (L h) λb=>?_
  show ee v (nT c q) λu z=>?_
  show PySem.IsiPair.str_tuple (b.here I (.bool _) _)
 |_=>show nn h
end
theorem ZW(a:List bu)(b:List K)(c:a.Nodup)(d:a.length=b.length):(a.filterMap λn=>((a.zip b).lookup n).map (n, ·))=a.zip b/\a.filter (λn=>((a.zip b).lookup n).isNone)=[]:=by
 have e:(a.zip b).map (·.1)=a:=Jg (bC d)
 have f:=λp (m:p∈a.zip b)=>lookup_mem (x:=p.1) (p:=p.2) (e.symm▸c) m
 generalize a.zip b=l at *
 clear d c;subst e
 constructor
 .rwa [Dj]
  have:∀r:List (bu×K),(∀p∈r,l.lookup p.1=W p.2)->r.filterMap ((λn=>(l.lookup n).map (n, ·))∘(·.1))=r:=λr=>by
   induction r with
   |nil=>showλz=>rfl
   |cons p r g=>showλq=>by rwa[nz,oH,q p (a7 ..),g λp m=>q p (bq _ m)];rfl
  show this l f
 .show Jh.mpr λn m=>?_
  show ct n (b3.mp m) λp q=>?_
  rwa[f p q];show fe
theorem ZX{l:List b}(h:l=[]){i:a}{f:b->a->eT (ForInStep a)}{k:a->eT c}:(lJ l i f>>=k)=k i:=![h]
theorem ZY(n q:bu)(d:List Arg)(kd:List (Option yn))(g:List yn)(b:FuncBody)(h:ia)(i:aR)(j:List (bu×aR))(k e l:K)(m:Option aR)(o p:K)(r:aR)(a:List K)(s:(d.map (·.arg)).Nodup)(t:d.length=a.length):
 bindArgs ⟨n,q,⟨[],d,N,[],kd,N,g⟩,b,h,i,j,aN,k,e,l,m,o,p,r⟩ ⟨a,[]⟩=bx ((d.map (·.arg)).zip a):=by
 have f:(d.map (·.arg)).length=a.length:=(bN ..).trans t
 have z:=ZW (d.map (·.arg)) a s f
 show(aL (c:=(I (a.length>(d.map (·.arg)).length)&&U)=U) (by rwa[ef (f▸cq _)];show fe)).trans ?_
 show(aL (c:=(!(List.filter (λn=>(List.lookup n ((d.map (·.arg)).zip a)).isNone) (List.take ((d.map (·.arg)).length-(List.drop (0-(d.map (·.arg)).length) ([]:List K)).length) (d.map (·.arg)))).isEmpty)=U) (by rwa[y6,mr,Nat.sub_zero,pP,z.2];show fe)).trans ?_
 show(ZX ((aI (List.zip _) y6).trans Dp)).trans ?_
 show aI Sem.pure ((aI (Ji _) (eM _)).trans z.1)
theorem ZZ{a:vj}{b:List K}(i:a.params.posonlyargs=[])(j:a.params.vararg=N)(k:a.params.kwonlyargs=[])(l:a.params.kwarg=N)(m:a.defaults= aN)
(n:(a.params.args.map (·.arg)).Nodup)(o:a.params.args.length=b.length):bindArgs a ⟨b,[]⟩=bx ((a.params.args.map (·.arg)).zip b):=by
 have c:∀d e f g h,d=[]->e=ae->f=[]->g=ae->h=aN->bindArgs ⟨a.name,a.qualname,⟨d,a.params.args,e,f,a.params.kw_defaults,g,a.params.defaults⟩,a.body,a.scope,a.globals,a.closure,h,a.kwdefaults,a.doc,a.pyModule,a.annotations,a.code,a.closureTuple,a.builtins⟩ ⟨b,[]⟩=bx ((a.params.args.map (·.arg)).zip b):=by
  rintro z z z z z rfl rfl rfl rfl rfl
  show ZY _ _ _ _ _ _ _ _ _ _ _ _ _ _ _ _ _ n o
 show c _ _ _ _ _ i j k l m
theorem Z0{k:bu->Option gF}{b:List (bu×K)}{m:bu->Option K}{x:bu}{v:K}(d:(b.map (·.1)).Nodup)(f:k x=W .local):((x,v)∈b->bindL k b m x=W v)/\(x∉b.map (·.1)->bindL k b m x=m x):=by
 induction b generalizing m with
 |nil=>show⟨λh=>aF h bc,λz=>rfl⟩
 |cons p r a=>
  obtain⟨g,c⟩:=i9.mp d
  show⟨λh=>?_,λh=>?_⟩
  .rcases bB.mp h with e|h
   .clear d h;cases e
    rwa[(a c).2 g]
    simp[f]
   .show (a c).1 h
  .rw [ea,bB,not_or]at h
   rwa[(a c).2 h.2]
   split
   .show aL h.1
   .rfl
theorem Z3{k:bu->Option gF}{b:List (bu×K)}{m:bu->Option K}{x:bu}{v:K}(d:(b.map (·.1)).Nodup)(f:k x=W fH):((x,v)∈b->bindC k b m x=W v)/\(x∉b.map (·.1)->bindC k b m x=m x):=by
 induction b generalizing m with
 |nil=>show⟨λh=>aF h bc,λz=>rfl⟩
 |cons p r a=>
  obtain⟨g,c⟩:=i9.mp d
  show⟨λh=>?_,λh=>?_⟩
  .rcases bB.mp h with e|h
   .clear d h;cases e
    rwa[(a c).2 g]
    simp[f]
   .show (a c).1 h
  .rw [ea,bB,not_or]at h
   rwa[(a c).2 h.2]
   split
   .rfl
   .show aL h.1
theorem NM :(∀x c,acc.lookup x=W c->∃d,(qV n l acc).lookup x=W d)/\(∀x,(x,fH)∈l->∃c,(qV n l acc).lookup x=W c):=by
 induction l generalizing n acc with
 |nil=>show⟨λx c h=>⟨c,h⟩,λx h=>aF h bc⟩
 |cons p r a=>
  obtain⟨y,k⟩:=p
  unfold qV
  by_cases b:(k==fH)=U
  .rwa [aJ b]
   show⟨λx c h=>?_,λx h=>?_⟩
   .by_cases e:x=y
    .subst e;show a.1 x n Dd
    .show a.1 x c (by rwa[pM,show(x==y)=Y from beq_eq_false_iff_ne.mpr e];show h)
   .rcases bB.mp h with e|h
    .clear b h;cases e;show a.1 y n Dd
    .show a.2 x h
  .rwa [aL b]
   show⟨a.1,λx h=>?_⟩
   rcases bB.mp h with e|h
   .clear h;cases e;show aF rfl b
   .show a.2 x h
theorem Z4{l:List (Nat×D)}{a:Fm}(h:(l.foldl (λr p=>r.set p.1 (W p.2)) a)[i]?=W (W d)):(i,d)∈l\/a[i]?=W (W d):=by
 induction l generalizing a with
 |nil=>show aW h
 |cons p r b=>
  rcases b h with h|h
  .show aY (bq _ h)
  .rcases ui h with⟨c,e⟩|⟨z,h⟩
   .show aY (by rwa[<-c,e];show a7)
   .show aW h
structure lh (F:Fn) (p:l8) (c:ia) (b:List dj):Prop where
 kind:c.kind= lK
 gen:c.isGenerator=ah
 co:c.isCoroutine=ah
 ns:F.ns=c.names.length
 nd:(c.names.map (·.1)).Nodup
 free:∀p∈c.names,p.2≠ eW
 po:p.posonlyargs=[]
 va:p.vararg=ae
 ko:p.kwonlyargs=[]
 kw:p.kwarg=ae
 len:F.ps.length=p.args.length
 Z5:F.ps.Nodup
 st:∀q∈F.ps.zip p.args,jK af c.names q.1 q.2.arg=af
 bd:mR c.names F.bd b=af
structure FnAt (h:b0) (f:Nat) (F:Fn) (o:cC) (fd:vj) (l:List dj):Prop where
 at_:h.get? f=aa o
 dat:o.data= .func fd
 body:fd.body= .stmts l
 glob:fd.globals=lu
 Z6:fd.closure=[]
 Z7:fd.defaults= aN
 bi:fd.builtins=sT
 code:h.CodeRec fd.code fd.qualname
 pj:lh F fd.params fd.scope l
def Bc(_:aU)(h:b0)(f:Nat)(F:Fn):Prop:=∃o a l,FnAt h f F o a l
structure uM (n:Nat) (A:bK):Prop where
 hh:A.handled=ae
 depth:A.depth+4*n+8<recursionLimit
 units:A.units+32*n+480<cv
theorem eK.call{A:bK}(r:eK n A):uM n A:=⟨r.hh,la r.depth (aQ rfl),la r.units (aQ rfl)⟩
theorem uM.body(r:uM (n+1) c)(e:c8):eK n (c.deeper e):=⟨r.hh,by show c.depth+1+4*n+10<_;rwa[gG c.depth];show la (a:=c.depth+4*n) (b:=12) (d:=11) r.depth (aQ rfl),by show c.units+3+32*n+500<_;rwa[gG c.units];show la (a:=c.units+32*n) (b:=512) (d:=503) r.units (aQ rfl)⟩
def qy(w:aU)(n:Nat):Prop:=∀(f:Nat)(e:List D)(h:List K)(d:D){g:G}{s:H}{i a:St}{A:bK}{R:km->H->Prop},
 Inv w g s i->RL w g s.heap h e->uM n A->run n f e i=W (d,a)->(∀v c b,Step [] g s c b->Sat w c b.heap a->Pq.R w c b.heap v d->R (fO (il v)) b)->gm (Z pw w) A (.call (M f) ⟨h,[]⟩) R s
section
variable{w:aU}{n:Nat}
theorem Z8{F:Fn}(h:Mk F (p,b,c)=U):lh F p c b:=by
 have e:=au h
 have f:=au e.1
 have g:=au f.1
 have i:=au g.1
 have m:=au i.1
 have o:=au m.1
 have j:=au o.1
 have k:=au j.1
 have l:=au k.1
 have a:=au l.1
 have d:=au (au (au a.1).1).1
 show⟨bX.mp (au (au d.1).1).1,GC (au (au d.1).1).2,GC (au d.1).2,bS d.2,bS (au (au a.1).1).2,λp r q=>by have:=bQ.mp (au a.1).2 p r;rw[q]at this;show ff this,kA.mp a.2,Cj.mp l.2,kA.mp k.2,Cj.mp j.2,bX.mp i.2,bS g.2,bQ.mp f.2,e.2⟩
section
variable{g g':G}{h:b0}
theorem sg(s:∀a,g'.Mt a->g.Mt a)(Q:∀(n:Nat) p,n<k->g.θ[n]?=W p->g'.θ[n]?=W p):
 (∀d:D,∀v,R w g h v d->d.lo k=U->R w g' h v d)/\(∀d v,RL w g h v d->D.nQ k d=U->RL w g' h v d)/\(∀d v,RE w g h v d->D.Ak k d=U->RE w g' h v d)/\∀d v,RA w g h v d->D.Al k d=U->RA w g' h v d :=
 D.ind (λZ r Z=>r) (λZ Z r Z=>r) (λZ Z r Z=>r) (λZ Z r Z=>r) (λZ i Z r q=>k4 r λa y n e l f u o=>x3 a y n ⟨e,l,λx=>f (s _ x),u,i _ o q⟩) (λZ i Z r q=>k4 r λa y n e l f u o=>x3 a y n ⟨e,l,λx=>f (s _ x),u,i _ o q⟩)
  (λZ i Z r q=>z2 r λa z n e l f u H o=>x3 a z n ⟨e,l,⟨λx=>f.1 (s _ x),f.2⟩,u,H,i _ o q⟩) (λZ Z i Z r q=>z4 r λa A z n e l I f B o=>x4 a A z n ⟨e,l,I,λx=>f (s _ x),λx=>B (s _ x),i _ o q⟩)
  (λZ Z r q=>jW r λa A e t=>x2 a A ⟨e,Q _ _ (bS q) t⟩) (λZ Z r Z=>r) (λZ r Z=>r) (λZ Z i j Z r q=>eX r λv r e a b=>x2 v r ⟨e,i _ a (au q).1,j _ b (au q).2⟩) (λZ r Z=>r)
  (λZ Z Z i j m Z r q=>kZ r λk v r e a b c=>x3 k v r ⟨e,i _ a (au q).1,j _ b (au (au q).2).1,m _ c (au (au q).2).2⟩) (λZ r Z=>r) λZ Z Z i j Z r q=>kZ r λt v r e J a b=>x3 t v r ⟨e,J,i _ a (au q).1,j _ b (au q).2⟩
theorem NN:(∀d:D,d.bF=U->d.lo 0=U)/\∀d,D.bT d=U->D.nQ 0 d=U:=D.nJ rfl (λz=>rfl) (λz=>rfl) (λz z i=>i) rfl λz z z z i j=>dN i j
theorem R.Bd(b:∀a,g'.Mt a->g.Mt a)(r:R w g h v d)(q:d.bF=U):R w g' h v d:=(sg b λz z c=>aF c (i7 _)).1 d v r (NN.1 d q)
theorem RL.Bd(b:∀a,g'.Mt a->g.Mt a)(r:RL w g h v d)(q:D.bT d=U):RL w g' h v d:=(sg b λz z c=>aF c (i7 _)).2.1 d v r (NN.2 d q)
theorem GK{f:Nat->Option D}(B:∀a,g'.Mt a->g.Mt a)(H:∀(n:Nat) p,g.θ[n]?=aa p->∀d,f n=aa d->R w g' h (ao p.1) d):
 (∀d v m,R w g h v d->nN f d=aa m->R w g' h v m)/\(∀d v m,RL w g h v d->kG f d=aa m->RL w g' h v m)/\(∀d v m,RE w g h v d->qk f d=aa m->RE w g' h v m/\m.map (·.1)=d.map (·.1))/\∀d v m,RA w g h v d->nO f d=aa m->RA w g' h v m:=by
 show D.ind ?_ ?_ ?_ ?_ ?_ ?_ ?_ ?_ ?_ ?_ ?_ ?_ ?_ ?_ ?_ ?_
 .intro v m r e;rwa[<-aH e];show r
 .intro b v m r e;rwa[<-aH e];show r
 .intro b v m r e;rwa[<-aH e];show r
 .intro b v m r e;rwa[<-aH e];show r
 .rintro l i v m ⟨a,Q,n,rfl,z,s,I,A⟩ e
  obtain⟨l,o,rfl⟩:=fX e
  show x3 a Q n ⟨rfl,z,λq=>s (B _ q),I,i _ _ A o⟩
 .rintro l i v m ⟨a,Q,n,rfl,z,s,I,A⟩ e
  obtain⟨l,o,rfl⟩:=fX e
  show x3 a Q n ⟨rfl,z,λq=>s (B _ q),I,i _ _ A o⟩
 .rintro l i v m ⟨a,Q,n,rfl,z,s,I,V,A⟩ e
  show bR (fX e) λl o M=>?_;clear e;obtain rfl:=M
  obtain⟨r,k⟩:=i _ _ A o
  show x3 a Q n ⟨rfl,z,⟨λq=>s.1 (B _ q),s.2⟩,I,by rwa[k];show V,r⟩
 .rintro C l i v m ⟨a,N,W,n,rfl,z,Y,s,P,A⟩ e
  show ct m (fX e) λl o=>?_
  show x4 a N W n ⟨rfl,z,Y,λq=>s (B _ q),λq=>P (B _ q),i _ _ A o⟩
 .rintro n v m ⟨a,N,rfl,s⟩ e;show H n (a,N) s _ e
 .intro X X X r X;show r.elim
 .intro v m r e;rwa[<-aH e];show r
 .rintro d l i j v m ⟨u,J,rfl,a,b⟩ e
  show bU (e) λx K e=>?_
  show ct m (fX e) λy L=>?_
  show x2 u J ⟨rfl,i _ _ a K,j _ _ b L⟩
 .intro v m r e;rwa[<-aH e];show⟨r,rfl⟩
 .rintro k d l X i j v m ⟨Z,u,J,rfl,a,b,c⟩ e
  obtain⟨U,e⟩:=iff e
  show bU (e) λx K e=>?_
  show ct m (fX e) λy L=>?_
  obtain⟨r,q⟩:=j _ _ c L
  show⟨(x3 Z u J ⟨rfl,a.Bd B U,i _ _ b K,r⟩),aI (_:: ·) q⟩
 .intro v m r e;rwa[<-aH e];show r
 .rintro k d l i j v m ⟨t,u,J,rfl,U,a,b⟩ e
  show bU (e) λx K e=>?_
  show ct m (fX e) λy L=>?_
  show x3 t u J ⟨rfl,U,i _ _ a K,j _ _ b L⟩
theorem GL:(∀d:D,∀v,R w g h v d->d.lo g.θ.length=U)/\(∀d v,RL w g h v d->D.nQ g.θ.length d=U)/\(∀d v,RE w g h v d->D.Ak g.θ.length d=U)/\∀d v,RA w g h v d->D.Al g.θ.length d=U :=
 D.ind (λz z=>rfl) (λz z z=>rfl) (λz z z=>rfl) (λz z z=>rfl) (λz i z r=>k4 r λz z z z z z z f=>i _ f) (λz i z r=>k4 r λz z z z z z z f=>i _ f) (λz i z r=>z2 r λz z z z z z z z f=>i _ f) (λz z i z r=>z4 r λz z z z z z z z z f=>i _ f)
  (λz z r=>jW r λz z z e=>dA (cD.mp e).1) (λz z r=>r.elim) (λz z=>rfl) (λz z i j z r=>eX r λz z z a b=>dN (i _ a) (j _ b)) (λz z=>rfl) (λz z z i j m z r=>kZ r λz z z z a b c=>dN (i _ a) (dN (j _ b) (m _ c))) (λz z=>rfl) λz z z i j z r=>kZ r λz z z z z a b=>dN (i _ a) (j _ b)
end
theorem NO(I:∀a,c.Mt a->g.Mt a)(r:Sat w g h b)(v:∀(n:Nat) p,n<k->g.θ[n]?=W p->c.θ[n]?=W p)(t:∀(n:Nat) p,¬n<k->g.θ[n]?=W p->¬c.Mt p.1/\ ¬c.Mt p.2)(J:∀(n:Nat) p,g.θ[n]?=W p->670<=p.1)
(m n:Nat)(p:aR×aR)(s:g.θ[n]?=aa p)(d:D)(f:eZ b k m n=aa d):R w c h (ao p.1) d:=by
 induction m generalizing n p d with
 |zero=>
  obtain⟨u,f⟩:=iff f
  rwa[<-aH f];show .obj (a:=p.1) (dx:=p.2) (v n p u s)
 |succ m ih=>
  by_cases u:n<k
  .rwa [<-aH ((aJ u).symm.trans f)];show .obj (a:=p.1) (dx:=p.2) (v n p u s)
  .have f:(match b[n]? with|some (aO l)=>(kG (eZ b k m) l).map ay|some (a8 l)=>(qk (eZ b k m) l).map dG|some (cz C l)=>(nO (eZ b k m) l).map (bh C)|none=>ae)=aa d:=(aL u).symm.trans f
   have t:=t n p u s
   have F:=GK (w:=w) (h:=h) I ih
   generalize q:b[n]?=y;induction y with
   |none=>rw[q]at f;show nn f
   |some o=>
    rw[q]at f
    induction o with
    |list l=>
     show bR (fX f) λQ i j=>?_;clear f;obtain rfl:=j
     show ix ((r.obj _ _ _ s q)) λH k e x z A=>?_
     show .lst x t.1 z (F.2.1 _ _ _ A i)
    |dict l=>
     show bR (fX f) λQ i j=>?_;clear f;obtain rfl:=j
     show nI (r.obj _ _ _ s q) λH k e x z K A=>?_
     obtain⟨L,M⟩:=F.2.2.1 _ _ _ A i
     show .ji x ⟨t.1,beq_eq_false_iff_ne.mpr λe=>aF w2 (i8.mpr (e▸J n p s))⟩ z (by rwa[M];show K) L
    |inst C l=>
     show bR (fX f) λQ i j=>?_;clear f;obtain rfl:=j
     show ix ((r.obj _ _ _ s q)) λH k e x B N=>?_
     show .ins x B t.1 t.2 (F.2.2.2 _ _ _ N i)
theorem GN(I:Inv w g s b)(y:Step [] g s f i)(z:Sat w f i.heap c)(rv:R w f i.heap v d)(h:iU b d c=aa (r,j)):
 j=b/\Step [] g s g i/\Sat w g i.heap b/\R w g i.heap v r:=by
 show fI (h) λP h=>?_
 .show eG (h) λd' hd e=>?_
  clear h;show zY _ (cO e) λe2=>?_
  show aV (y.ext.pre) λQ t A=>?_
  have m:b.length=g.θ.length:=I.sat.len
  have U:∀n,n<b.length->c[n]?=b[n]? :=λn hn=>by
   have:(c.take b.length)[n]?=b[n]? :=![P]
   rw[Dq hn]at this;show this
  have H:∀a,g.Mt a->f.Mt a:=λa q=>by
   rcases q with⟨p,x,e⟩|q
   .show aY ⟨p,by rwa[t];show dT _ x,e⟩
   .show aW (by rwa[y.ext.z];show q)
  have u:∀(n:Nat) p,n<b.length->f.θ[n]?=aa p->g.θ[n]?=aa p:=λn p hn e=>by
   rw[t,fB (ey ‹_› ‹_›)]at e;show e
  have I':Inv w f i c:=I.bz y z
  have B:∀(n:Nat) p,¬n<b.length->f.θ[n]?=aa p->¬g.Mt p.1/\ ¬g.Mt p.2:=λn p hn e=>by
   have x:p∈Q:=by
    rw[t,mn (by lia)]at e
    show cN e
   have:=A p x
   show⟨λq=>cq _ (bg (I.mO _ q) this.1),λq=>cq _ (bg (I.mO _ q) this.2)⟩
  have fz:=NO (k:=b.length) H z u B λn p x=>I'.hi p.1 (aY ⟨p,cN x,aY rfl⟩)
  show⟨e2.symm,⟨⟨rfl,⟨[],by simp,λX h=>aF h bc⟩,y.ext.keep,y.ext.size⟩,y.gens,y.os⟩,⟨m,λn p o x V=>?_,I.sat.apart,I.sat.fz⟩,(GK H (fz 4)).1 _ _ _ rv hd⟩
  have hn:n<b.length:=(cD.mp V).1
  have W:f.θ[n]?=aa p:=by rwa[t,fB (by lia)];show x
  have Y:=I.sat.obj n p o x V
  have Z:=z.obj n p o W ((U n hn).trans V)
  induction o with
  |list l=>
   show ix (Y) λX X X X X J=>?_
   show ix (Z) λK k e L M N=>?_
   show x2 K k ⟨e,L,M,(sg H u).2.1 _ _ N (by rwa[m];show GL.2.1 _ _ J)⟩
  |dict l=>
   show nI Y λX X X X X X J=>?_
   show nI Z λK k e L M nd N=>?_
   show x2 K k ⟨e,L,M,nd,(sg H u).2.2.1 _ _ N (by rwa[m];show GL.2.2.1 _ _ J)⟩
  |inst C l=>
   show ix (Y) λX X X X X J=>?_
   show ix (Z) λK k e L M N=>?_
   show x2 K k ⟨e,L,M,(sg H u).2.2.2 _ _ N (by rwa[m];show GL.2.2.2 _ _ J)⟩
end
set_option backward.match.sparseCases true
theorem cellsFrom_names{l:List (bu×gF)}{n:Nat}{acc:List (bu×aR)}(h:(l.map (·.1)).Nodup)(b:(acc.map (·.1)).Nodup)(c:∀p∈acc,p.1∉l.map (·.1)):((qV n l acc).map (·.1)).Nodup:=by
 induction l generalizing n acc with
 |nil=>show b
 |cons p r d=>
  obtain⟨i,f⟩:=i9.mp h
  unfold qV
  by_cases g:(p.2==fH)=U
  .rwa [aJ g]
   show d f (i9.mpr ⟨λq=>?_,b⟩) λp a=>?_
   .show fW (q) λp a e=>?_
    show c p a (e▸a7)
   .rcases bB.mp a with rfl|a
    .show i
    .show λq=>c p a (bq _ q)
  .rwa [aL g]
   show d f b λp a q=>c p a (bq _ q)
section
variable{w:aU}{n:Nat}
section
variable{F:Fn}{p:l8}{c:ia}{b:List dj}
theorem lh.at_(C:lh F p c b){j i:Nat}(d:F.ps[j]?=W i):∃a k,p.args[j]?=W a/\c.names[i]?=W (a.arg,k)/\(k= .local\/k= fH):=by
 obtain⟨a,e⟩:∃a,p.args[j]?=W a:=⟨_,dn (C.len▸(cD.mp d).1)⟩
 show aV (Ff (C.st (i,a) (cN (i:=j) (rh.mpr ⟨d,e⟩)))) λk f g=>?_
 show x2 a k ⟨e,f,g.imp id And.right⟩
theorem lh.NP(C:lh F p c b):(p.args.map (·.arg)).Nodup:=by
 rwa[List.nodup_iff_pairwise_ne,vP]
 intro i j d f g e
 rw[bN]at d f
 rw[Jj,Jj]at e
 have h:=dn (C.len▸d)
 have l:=dn (C.len▸f)
 show eX (C.at_ h) λa k q r z=>?_
 show eX (C.at_ l) λs t m o z=>?_
 cases (dn d).symm.trans q
 cases (dn f).symm.trans m
 show aF ((Jk C.Z5).mp (Fg C.nd r (e▸o))) (eU g)
theorem lh.Z9(C:lh F p c b){f:List K}{x:bu×K}(m:p.args.length=f.length)(h:x∈(p.args.map (·.arg)).zip f):c.names.lookup x.1=W .local\/c.names.lookup x.1=W fH:=by
 show dM (lD h) λj d=>?_
 have d:=(rh.mp d).1
 have e:=(cD.mp d).1
 rw[bN,<-C.len]at e
 show eX (C.at_ (dn e)) λa k i g l=>?_
 rw[dy,i]at d
 rwa[<-L d]
 rcases l with rfl|rfl
 .show aY (uh C.nd g)
 .show aW (uh C.nd g)
theorem lh.kinds(C:lh F p c b){a:List K}{n:Nat}(d:p.args.length=a.length)(x:bu×K)(e:x∈(p.args.map (·.arg)).zip a):c.names.lookup x.1=W .local\/(c.names.lookup x.1=W fH/\((qV n c.names []).lookup x.1).isSome=U) :=
 (C.Z9 d e).imp id λh=>⟨h,by
  obtain⟨q,f⟩:=(NM (l:=c.names) (n:=n) (acc:=[])).2 _ (og h)
  rwa[f];rfl⟩
def GO(F:Fn)(a:List D):Fm:=(F.ps.zip a).foldl (λr p=>r.set p.1 (W p.2)) (vJ F.ns N)
theorem aaa(F:Fn)(d:List D):(GO F d).length=F.ns:=by
 have:∀(l:List (Nat×D)) (a:Fm),(l.foldl (λr p=>r.set p.1 (W p.2)) a).length=a.length:=λl=>by
  induction l with
  |nil=>showλz=>rfl
  |cons p r e=>showλa=>(e _).trans mj
 show(this ..).trans List.length_replicate
theorem lh.NQ(C:lh F p c b){w:aU}{g:G}{h:b0}{l:List D}{m:List K}(o:RL w g h m l){i:Nat}{y:bu}{k:gF}{e:D}(q:c.names[i]?=W (y,k))(r:(GO F l)[i]?=W (W e)):∃v,(y,v)∈(p.args.map (·.arg)).zip m/\Pq.R w g h v e:=by
 rcases Z4 r with h|h
 .obtain ⟨j,d⟩:=lD h
  have d:=rh.mp d
  show eX (C.at_ d.1) λa x s t z=>?_
  cases q.symm.trans t
  show aV (o.get d.2) λv f u=>?_
  show⟨v,cN (i:=j) (rh.mpr ⟨![dy,s],f⟩),u⟩
 .rw [List.getElem?_replicate]at h
  split at h<;>cases h
theorem aab{w:aU}{m:vj}{d:c8}{K:List D}{Q:List az}{g:G}{s j:H}{V:St}{l:List dj}{f:aR}(C:lh F m.params m.scope l)(W:RL w g s.heap Q K)(I:Inv w g s V)(hl:m.params.args.length=Q.length)(hg:m.globals=lu)(hb:m.builtins=sT)(B:d=callEnvC m s.heap.objs.size f)
(x:InCallC s d.locals (bindL d.kindOf ((m.params.args.map (·.arg)).zip Q) λb=>ae) d.cells (bindC d.kindOf ((m.params.args.map (·.arg)).zip Q) λb=>ae) j):(∀a∈Pq.own d,s.heap.objs.size<=a)/\Inv w (g.more (Pq.own d)) j V/\bo w (g.more (Pq.own d)) j.heap d m.scope.names (GO F K)/\cu s j:=by
 have eC:d.cells=qV (s.heap.objs.size+1) m.scope.names []:=B▸rfl
 have Y:∀y,d.kindOf y=m.scope.names.lookup y:=B▸λb=>rfl
 have L:(d.cells.map (·.1)).Nodup:=eC▸cellsFrom_names C.nd kU λb h=>aF h bc
 have H:((((m.params.args.map (·.arg)).zip Q).map (·.1))).Nodup:=by rwa[Jg (bC ((bN ..).trans hl))];show C.NP
 show p9 x.toInCall.same λZ M J=>?_
 have o:d.locals<j.heap.objs.size:=by
  show Rr (x.toInCall.ns) λo' b b q b=>?_
  show dt q
 have G:cu s j:=⟨x.toInCall.keep,aC x.toInCall.fresh (eL o),![J],![J]⟩
 have t:∀a∈Pq.own d,s.heap.objs.size<=a:=λa u=>by
  rcases bB.mp u with rfl|u
  .show x.toInCall.fresh
  .show jg (u) λp r=>?_
   show aC x.toInCall.fresh (eL (x.above p.1 p.2 r))
 have N:∀a∈Pq.own d,a<j.heap.objs.size:=λa u=>by
  rcases bB.mp u with rfl|u
  .show o
  .show ct a (b3.mp u) λp r=>?_
   show aV (x.cell p.1 p.2 (lookup_mem L r)) λoc q b=>?_
   show dt q
 show⟨t,I.enter G t N,
  {kind:=B▸C.kind
   names:=B▸rfl
   glob:=B▸hg
   bi:=B▸hb
   len:=(aaa F K).trans C.ns
   nd:=C.nd
   loc:=⟨_,x.toInCall.ns,λi y e q P=>by
    show aV (C.NQ W q P) λv A U=>?_
    show⟨v,(Z0 H ((Y y).trans (uh C.nd q))).1 A,U.enter G t⟩⟩
   cell:=λi y k q P=>by
    rcases P with rfl|rfl
    .obtain ⟨c,hc⟩:=(NM (l:=m.scope.names) (n:=s.heap.objs.size+1) (acc:=[])).2 y (cN q)
     rw[<-eC]at hc
     show⟨c,hc,kv (x.above y c (og hc)),_,x.cell y c hc,λe h3=>?_⟩
     show aV (C.NQ W q h3) λv A U=>?_
     show⟨v,(Z3 H ((Y y).trans (uh C.nd q))).1 A,U.enter G t⟩
    .show aF rfl (C.free _ (cN q))
   apart:=x.apart
   z:=dT _ (a7 ..)
   zc:=λp r=>dT _ (bq _ (ij (f:=(·.2)) r))},G⟩
end
theorem GP(hb:∀f F,j4 f=W F->mW w n F.bd)(hf:∀f F,j4 f=W F->∀h,mD w h->Bc w h f F){R:km->H->Prop}(I:Inv w g s j)(rl:RL w g s.heap i k)(hr:uM (n+1) b)
(m:mJ tb (run n) j4 f k j=aa (d,c))(hR:∀v U M,Step [] g s U M->Sat w U M.heap c->Pq.R w U M.heap v d->R (fO (il v)) M):gm (ar pw w) b (.call (ao f) ⟨i,[]⟩) R s:=by
 show bU (m) λF hF m=>?_
 show fI (m) λy m=>?_
 obtain⟨⟨r,ρ',B⟩,V,m⟩:=jj m
 show Ex (hf f F hF s.heap I.base.y) λo W l q=>?_
 have C:=q.pj
 have u:W.params.args.length=i.length:=C.len.symm.trans (y.trans rl.length.symm)
 show codeAny_call_cells (bY (aC (ew ..) (ew ..)) hr.depth) q.at_ q.dat I.base.nl q.code q.body (ZZ C.po C.va C.ko C.kw q.Z7 C.NP u) q.Z6 (C.kinds u) (λs₁ x=>?_) C.co C.gen C.kind
 generalize hE:callEnvC W s.heap.objs.size f=Y at x |-
 have Z:=aab C rl I u q.glob q.bi hE.symm x
 show hb f F hF l W.scope.names C.bd Z.2.1 Z.2.2.1 (hr.body Y) V λfl g2 N Q p X H=>?_
 have J:Step [] g s (g2.less g.Z) N:=Step.leave Z.2.2.2 Z.1 Q λa ha=>ha
 have K:∀a∈g.Z,a∈g2.Z:=o5 Q
 have t:=p.leave K
 have P:Pq.R w (g2.less g.Z) N.heap (match(generalizing:=false) fl with|.ret v=>v|_=> aN) (r.getD cg):=by
  induction r with
  |none=>cases H;show .none
  |some e=>show ee fl H λv P=>?_;show P.leave K
 have m:(if F.sl=af then iU j (r.getD cg) B else aa (r.getD cg,B))=aa (d,c):=m
 by_cases L:F.sl=af
 .clear Z V;obtain⟨rfl,z⟩:=GN I J t P ((aJ L).symm.trans m)
  show hR _ g N z.1 z.2.1 z.2.2
 .clear V p;cases (aL L).symm.trans m
  show hR _ _ N J t P
theorem aac(f:Sat w g h b)(d:h.get? a=W (cP c n)):¬g.Ft a:=λ⟨p,t,e⟩=>by
 obtain⟨k,r⟩:=lD t
 have q:k<b.length:=by rwa[f.len];show(cD.mp r).1
 have o:=f.obj k p _ r (dn q)
 generalize b[k]=u at o
 induction u with
 |list v=>
  show eX (o) λs m j i z=>?_
  rw[show a=p.1 from e.elim id λe=>e.trans j,i]at d;simp[cP]at d
 |dict v=>
  show eX (o) λs m j i z=>?_
  rw[show a=p.1 from e.elim id λe=>e.trans j,i]at d;simp[cP]at d
 |inst C l=>
  show ix (o) λs m j i x z=>?_
  rcases e with e|e
  .rw [e,i]at d;simp[cP,ik]at d
  .rw [e,x]at d;simp[cP]at d
theorem aad(k:Sat w g h f)(m:∀a∈g.Z,c.Mt a):(∀d:D,d.bF=U->∀v,Pq.R w c h v d->Pq.R w g h v d)/\∀d,D.bT d=U->∀v,RL w c h v d->RL w g h v d :=
 D.nJ (λz r=>r) (λz z r=>r) (λz z r=>r) (λz z i z r=>k4 r λa o n e l p q s=>x3 a o n ⟨e,l,λx=>x.elim (aac k l) λx=>p (m _ x),q,i _ s⟩) (λz r=>r) λz z z z i j z r=>eX r λv r e a b=>x2 v r ⟨e,i _ a,j _ b⟩
theorem NR(I:Inv w g s b){Z:List aR}(h:∀a∈Z,g.Mt a):Inv w ⟨[],Z⟩ s []:=by
 have c:∀a,¬(⟨[],Z⟩:G).Ft a:=λa q=>by show bR q λp e z=>?_;show aF ‹_› bc
 show⟨I.base,λa q=>q.elim (λq=>aF q (c a)) λq=>I.hi a (h a q),λa d=>I.mO a (h a d),⟨rfl,by simp,by simp,λa q=>aF q (c a)⟩⟩
theorem NT{Z:List aR}(d:Step [] ⟨[],Z⟩ s c a):Step [] g s g a :=
 ⟨⟨rfl,⟨[],by simp,λz h=>aF h bc⟩,λb o z f e=>d.ext.keep b o (λq=>by show bR q λp i z=>?_;show aF ‹_› bc) f e,d.ext.size⟩,d.gens,d.os⟩
theorem aae(I:Inv w g s b):∀m (n:Nat) p,g.θ[n]?=W p->∀d,eZ b 0 m n=W d->Pq.R w ⟨[],g.Z⟩ s.heap (M p.1) d:=by
 have i:∀(n:Nat) p,g.θ[n]?=W p->¬(⟨[],g.Z⟩:G).Mt p.1/\ ¬(⟨[],g.Z⟩:G).Mt p.2:=λn p c=>by
  have f:=cN c
  have h:∀a,¬(⟨[],g.Z⟩:G).Ft a:=λa q=>by show bR q λp c z=>?_;show aF ‹_› bc
  show⟨λq=>q.elim (h _) λq=>I.sat.fz p.1 ⟨p,f,aY rfl⟩ q,λq=>q.elim (h _) λq=>I.sat.fz p.2 ⟨p,f,aW rfl⟩ q⟩
 have e:∀a,(⟨[],g.Z⟩:G).Mt a->g.Mt a:=λa q=>q.elim (λq=>by show bR q λp c z=>?_;show aF ‹_› bc) aW
 show NO e I.sat (λn p j=>aF j (i7 _)) (λn p z c=>i n p c) λn p c=>I.hi p.1 (aY ⟨p,cN c,aY rfl⟩)
theorem aaf(j:∀f F,j4 f=aa F->mW w n F.bd)(B:∀f F,j4 f=aa F->∀h,mD w h->Bc w h f F):qy w (n+1):=λf Q vs d g s σ H A R I J K c L=>by
 have y:∀(Z:List aR) a,¬(⟨[],Z⟩:G).Ft a:=λZ a ⟨_,q,_⟩=>aF q bc
 have c:(if tb.pu f=af then wU (λes=>mJ tb (run n) j4 f es []) Q σ else mJ tb (run n) j4 f Q σ)=aa (d,H):=c
 by_cases hp:tb.pu f=af
 .have c:=(aJ hp).symm.trans c
  by_cases l:D.nQ 0 Q=af
  .obtain ⟨⟨d1,M⟩,N,c⟩:=jj ((aJ l).symm.trans c)
   show cR (iff c) λhd c=>?_
   show cR (cO (aH c)) λm r=>?_;clear c;obtain rfl:=m;obtain rfl:=r
   have P:∀a,a∈g.Z++g.θ.flatMap (λp=>[p.1,p.2])↔g.Mt a:=λa=>by
    simp only[d9,pQ,bB,bc,or_false]
    show or_comm
   have I0:=NR I (Z:=g.Z++g.θ.flatMap λp=>[p.1,p.2]) λa x=>(P a).mp x
   have t:∀a,(⟨[],g.Z++g.θ.flatMap λp=>[p.1,p.2]⟩:G).Mt a->g.Mt a:=λa q=>q.elim (λq=>aF q (y _ a)) λq=>(P a).mp q
   show GP j B I0 ((sg (k:=0) t λn p U=>aF U (i7 _)).2.1 _ _ J l) K N λv g' z u V W=>?_
   show L v g z (NT u) (I.sat.cA (fr:=[]) (λb o j e=>u.ext.keep b o (y _ b) j e) (λX h=>aF h bc)) ((sg (k:=0) (λa q=>?_) λn p U=>aF U (i7 _)).1 _ _ W hd)
   show aW (by rwa[u.ext.z];show(P a).mpr q)
  .show bU (((aL l).symm.trans c)) λes Y c=>?_
   obtain⟨⟨d1,M⟩,N,c⟩:=jj c
   obtain⟨hk,c⟩:=iff c
   show cR (cO (aH c)) λm r=>?_;clear c;obtain rfl:=m;obtain rfl:=r
   have t:∀a,(⟨[],g.Z⟩:G).Mt a->g.Mt a:=λa q=>q.elim (λq=>aF q (y _ a)) aW
   show GP j B (NR I (Z:=g.Z) λa x=> aW x) ((GK t (aae I 4)).2.1 _ _ _ J Y) K N λv g' z u V W=>?_
   have i:=I.sat.cA (h':=z.heap) (fr:=[]) (λb o j e=>u.ext.keep b o (y _ b) j e) (λX h=>aF h bc)
   show L v g z (NT u) i ((aad i λa x=> aW (by rwa[u.ext.z];show x)).1 _ hk _ W)
 .show GP j B I J K ((aL hp).symm.trans c) L
end
set_option backward.match.sparseCases false
theorem aag{C f:Nat}(h:rU C m=W f):(C,m,f)∈Aq/\C∈nV:=by
 show bU (h) λl b c=>?_
 have a:(LB.all λp=>p.2.all λq=>I ((p.1,q.1,q.2)∈Aq/\p.1∈nV))=U:=by decide +kernel
 show bS (bQ.mp (bQ.mp a _ (ue b)) _ (ue c))
section
variable{w:aU}{n:Nat}
theorem NU(P:dg)(h:lS a x f=U)(b:f∉[482,483,484]):keepIn (KK P) (M f)=U:=by
 show aV (ti.mp (au h).2) λm c h=>?_
 revert b;show iw (bX.mp (au h).2) λb=>?_
 have:=bQ.mp (Vc P) m c
 simp only[iI,bX]at this
 rw[bB,bB,bI,not_or,not_or]at b
 show this.resolve_left λq=>q.elim (λq=>q.elim b.1 b.2.1) b.2.2
theorem aah(q:qy w n)(t:nX w n l):bA w n (f6 f l):=λe u h i Y g s Z y d A Q E I F m j z=>
 WG (P:=λe=>aj (ar pw w) A (bw e i) Q E s) h λx np c B o H X p=>Wj j λJ K L j=>yz (F.FK I o (FU (NU w.params o H) p (t c u p I F m L λM g1 s1 b a N=>
  ⟨(I.bz b a).K,vv (q f J M d (I.bz b a) N m.call j λv U V W k r=>z v U V (b.trans W) k r)⟩)))
theorem aai{C:Nat}(h:Aj d=W C):∃l,d= bh C l:=by induction d using bJ<;>first|show nn h|show⟨_,aI (bh · _) (L h)⟩
theorem aaj(L:qy w n)(M:bA w n o)(N:nX w n l):bA w n (dB a o l):=λe H h P ρ g s σ U d A Q E I F t u V=>
 bW h λ⟨o',j⟩ hp h=>Wo u λW Y C f Z σ2 e1 y hf e2 u=>GJ hp (au h).2 (M o' H (au h).1 I F t e1 λv g1 s1 i k J pl pos=>by
  obtain⟨K,hC⟩:=aag hf
  have p:=I.bz i k
  obtain⟨lI,y⟩:=aai y
  show wB (LH p J y) λx dx es m z hi=>?_;obtain rfl:=z
  have q:=bQ.mp (U8 w.params) _ K
  rw[eu,eu,bX]at q
  show SY p.K hi (au (au (au (au (au (bQ.mp (Ap w.params) C hC)).1).1).1).1).1 q.1.1 q.1.2 q.2 (FU (bQ.mp (Vd w.params) _ K) (au h).2 (N j H (au h).2 p (F.step I i) t e2 λvs g2 s2 b c rl=>
   ⟨(p.bz b c).K,vv (L f (W::Z) (ao x::vs) d (p.bz b c) (.cons (J.ext b.ext (λX h=>aF h bc)) rl) t.call u λv g' s' st B r=>V v g' s' ((i.trans b).trans st) B r)⟩)))
theorem eK.under(r:eK n a)(C:aR)(rest:List K)(b:List (bu×K)):uM n (a.under (kC "type.__call__" ⟨M C::rest,b⟩)):=⟨r.hh,by
 have:=r.depth
 have e:Code.weight (kC "type.__call__" ⟨M C::rest,b⟩)=1:=by kernel_rfl
 show a.depth+Code.weight (kC "type.__call__" ⟨M C::rest,b⟩)+4*n+8<_
 rwa[e,gG a.depth]
 show la (d:=9) this (aQ rfl),by
 have:=r.units
 have e:Code.cUnits (kC "type.__call__" ⟨M C::rest,b⟩)=1:=by kernel_rfl
 show a.units+Code.cUnits (kC "type.__call__" ⟨M C::rest,b⟩)+32*n+480<_
 rwa[e,gG a.units]
 show la (d:=481) this (aQ rfl)⟩
theorem aak{C:Nat}(h:newD tb (run n) C c e a=W (d,b)){P:Prop}(j:∀f g,(C,W f)∈rV->run n f (ak a.length::e) (a++[cz C []])=W (cg,g)->(if c then iU a (ak a.length) g else W (ak a.length,g))=W (d,b)->P)
(k:(C,ae)∈rV->e=[]->(if c then aa (bh C [],a)else aa (ak a.length,a++[cz C []]))=aa (d,b)->P):P:=by
 show bU (h) λo i h=>?_
 induction o with
 |some f=>
  obtain⟨⟨r,g⟩,l,h⟩:=jj h
  induction r using bJ<;>first|show nn h|show j f g (ue i) l h
 |none=>show k (ue i) (iff h).1 (iff h).2
theorem aal{C f:Nat}(h:(C,W f)∈rV):(C,f)∈Ar:=by
 have a:(rV.all λp=>match p.2 with|some f=>I ((p.1,f)∈Ar)|none=>I (p.1=557\/p.1=583))=U:=by decide +kernel
 show bS (bQ.mp a _ h)
theorem aam{C:Nat}(h:(C,N)∈rV):C=557\/C=583:=by
 have a:(rV.all λp=>match p.2 with|some f=>I ((p.1,f)∈Ar)|none=>I (p.1=557\/p.1=583))=U:=by decide +kernel
 show bS (bQ.mp a _ h)
theorem aan{C:Nat}(h:C∈nV):C∉[482,483,484]:=bS (bQ.mp (show(nV.all λC=>I (C∉[482,483,484]))=U from by decide +kernel) _ h)
theorem aao{C:Nat}{e:Tok}{f:fT}(I:Inv w g ⟨a,b,c,e,f⟩ d):
 cu ⟨a,b,c,e,f⟩ ⟨(a.push kB).push (ik C a.objs.size),b,c,e,f⟩/\((a.push kB).push (ik C a.objs.size)).get? (a.objs.size+1)=W (ik C a.objs.size) /\
 Step [] g ⟨a,b,c,e,f⟩ (g.add (a.objs.size+1,a.objs.size)) ⟨(a.push kB).push (ik C a.objs.size),b,c,e,f⟩/\Sat w (g.add (a.objs.size+1,a.objs.size)) ((a.push kB).push (ik C a.objs.size)) (d++[cz C []]) /\
 R w (g.add (a.objs.size+1,a.objs.size)) ((a.push kB).push (ik C a.objs.size)) (M (a.objs.size+1)) (ak d.length):=by
 have G:cu ⟨a,b,c,e,f⟩ ⟨(a.push kB).push (ik C a.objs.size),b,c,e,f⟩:=(cu.push ⟨a,b,c,e,f⟩ _).trans (.push ⟨a.push kB,b,c,e,f⟩ _)
 have h:((a.push kB).push (ik C a.objs.size)).get? (a.objs.size+1)=W (ik C a.objs.size):=by
  have:=dQ (a.push kB) (o:=ik C a.objs.size) rfl
  rwa[(eP .. :(a.push kB).objs.size=a.objs.size+1)]at this
 show⟨G,h,MK (p:=(a.objs.size+1,a.objs.size)) (o:= cz C []) I G ⟨gW _,bG _⟩ (x2 ([]) 0 ⟨IM _,h,(dF _ (dQ _ rfl):((a.push kB).push (ik C a.objs.size)).get? a.objs.size=W kB),.nil⟩)⟩
theorem aap{C:Nat}(hc:qy w n)(hl:nX w n l):bA w n (oR C a l):=λe ns h V ρ g s σ σ' d A Q E I F hr j U=>
 WH (P:=λe=>aj (ar pw w) A (bw e V) Q E s) h λx np K pos h1 hC X h3=>Wq j λds c W j=>yz (F.FK I h1 (FU (NU w.params h1 (aan hC)) h3 (hl K ns h3 I F hr W λvs g1 s1 k z rl=>by
  have f1:=(au (bQ.mp (Ap w.params) C hC)).2
  have m:=I.bz k z
  show⟨m.K,vv ?_⟩
  obtain⟨y,gn,dr,tk,os⟩:=s1
  show Rv (aao (C:=C) m) λG hx p i L=>?_
  show aak j (λf σ2 B e2 j=>?_) λB Z hw=>?_
  .have f4:=au (bQ.mp (U9 w.params) _ (aal B))
   show make_core (makes_of m.K f1) (looks_findIn m.K (bX.mp f4.1)) (λq=>bind_fn m.K q (bX.mp f4.2)) (aY rfl) ?_
   show hc f (ak c.length::ds) (ao (y.objs.size+1)::vs) cg (m.bz p i) (.cons L (rl.MJ G ⟨gW _,bG _⟩)) (hr.under ..) e2 λv g' s' st N r=>?_
   obtain rfl:=r
   show⟨rfl,?_⟩
   have rv:=L.ext st.ext (λX h=>aF h bc)
   induction a with
   |true=>clear z L W i e2;show Ru (GN m (p.trans st) N rv j) λt H u r4=>?_;clear rv j m;obtain rfl:=t;show U _ _ s' (k.trans H) u r4
   |false=>show cR (cO (aH j)) λt J=>?_;clear j;obtain rfl:=t;obtain rfl:=J;show U _ _ s' ((k.trans p).trans st) N rv
  .clear W;subst Z
   obtain rfl:=rl
   have Y:=makes_of (M:=ar pw w) m.K f1
   show make_core Y (looks_findIn m.K ((aam B).elim (λe=>e▸bX.mp (au (LN w.params)).1) λe=>e▸bX.mp (au (LN w.params)).2:nD (KK w.params) (ao C) "__init__" =aa (aa (bM "object.__init__")))) (λq=>Ep (oi_bind q)) (aW ⟨rfl,rfl⟩) ?_
   show IG oi_plain entry_oi (@check_slot (ar pw w) _ _ _ "object.__init__" "object" "__init__" (ao (y.objs.size+1)) [] [] _ oi_kind oi_split (((Looks.ld hx).andThen .now:Looks (ar pw w) ((y.push kB).push (ik C y.objs.size)) (oi (ao (y.objs.size+1))) (ao C)).andThen (Y.top.keeps λb o e=>G.keep b o e):Looks (ar pw w) ((y.push kB).push (ik C y.objs.size)) (vw (ao (y.objs.size+1)) (aZ "object")) af) (oi_args (ao (y.objs.size+1))) ?_)
   show aj _ _ (Builtin.«object.__init__» ⟨[ao (y.objs.size+1)],[]⟩) _ _ _
   show aD (Eo rfl ?_)
   induction a with
   |true=>
    clear j;show cR (cO (aH hw)) λt J=>?_;clear hw j;obtain rfl:=t;obtain rfl:=J
    have aaq:iU c (ak c.length) (c++[cz C []])=aa (bh C [],c):=by
     unfold iU
     rwa[aJ Jl]
     show(eZ (c++[cz C []]) c.length 4 c.length).map _=_
     rwa[show eZ (c++[cz C []]) c.length 4 c.length=_ from aL (cq _),mn (bG _),jC];rfl
    show a4 (GN m p i L aaq) λX H u r4=>?_
    show U _ _ _ (k.trans H) u r4
   |false=>clear j;obtain⟨rfl,rfl⟩:=cO (aH hw);show U _ _ _ (k.trans p) i L)))
end
section
variable{w:aU}{A:bK}{E:az->aA->Prop}{s:aA}
theorem NV(k:s.heap.IsTupleIter d l i)(u:s.heap.IsTuple l c)
(v:∀x,c[i]?=aa x->∀f,f.IsTupleIter d l (i+1)->gp d s.heap f->b x {s with heap:=f})
(t:c[i]?=ae->A.handled=ae/\∀f e,tw d s.heap f->(∃o,f.get? e=aa o/\o.cls= aZ "StopIteration")->E (ao e) {s with heap:=f}):aj (ar pw w) A (Ri (ao d)) b E s:=by
 show k0 k λo g n h=>?_
 obtain⟨y,p,Z,z,q⟩:=u
 show ai (ma (name:=a0 "__next__") (⟨o,g,n⟩:s.TypeIs (ao d) "tuple_iterator") Kb (gE Kb (⟨o,g,n⟩:s.TypeIs (ao d) "tuple_iterator") PySem.F.entry_tuple_iterator_next ?_ (PySem.F.args_tuple_iterator_next_1 _)))
 show ai (aD (ai (jy g h (x:= ao l) rfl (ni rfl (ai (jy g h (x:= bL i 0) rfl (ai (Cr p q ?_))))))))
 dsimp only
 generalize j:c[i]?=r;induction r with
 |some x=>
  show oI (show c[((i:Nat):Int).toNat]?=aa x from j) ?_
  show ai ?_
  show yG g h (jh rfl) ?_
  show aD ⟨x,rfl,aD (v x j _ ⟨_,oz _ g (JT (zI h _)),(JU ..).trans n,(zI h _).trans rfl⟩ (iu ..))⟩
 |none=>
  show oI (show c[((i:Nat):Int).toNat]?=ae from j) ?_
  show ai ?_
  show iJ ?_
  show ai ?_
  show yG g h (jh rfl) ?_
  show ai (ai ?_)
  show ng ?_ (by size_fits)
  show ai (m:=firstArgMember _ _) (yD (a:=aN) rfl ?_)
  show ng ?_ (by size_fits)
  show ai (wpAny_handled ?_)
  rwa[show A.in1.handled=ae from(t j).1]
  show ai (aD (wpAny_throw ((t j).2 _ _ (((iu ..).extBut.push _).push _) ⟨_,dQ _ rfl,rfl⟩)))
theorem aar{i:Nat}(K:nj s.heap e c i d)(W:s.heap.IsTupleIter c l i)(hl:s.heap.IsTuple l f)(hx:f[i]?=aa x)(q:e≠c)
(hQ:∀P,IsEnumOut P e c ((i:Int)+1) x s.heap.objs.size->P.IsTupleIter c l (i+1)->P.get? s.heap.objs.size=aa (cP #[bL i s.toks,x] 0)->P.objs.size=s.heap.objs.size+1 ->
  (∀b o,b≠e->b≠c->s.heap.get? b=aa o->P.get? b=aa o)->a (aa (ao s.heap.objs.size)) {s with heap:=P,toks:=s.toks+1}):aj (ar pw w) A (gk (ao e)) a E s:=by
 show ai (qW (ma (name:=a0 "__next__") (⟨_,K,rfl⟩:s.TypeIs (ao e) "enumerate") zL (gE zL (⟨_,K,rfl⟩:s.TypeIs (ao e) "enumerate") Kc ?_ (Kd _))))
 show ai (aD (ai (jy K rfl (x:= ao c) rfl (ai (NV W hl (λx' Y j H g=>?_) λhn=>nn (hx.symm.trans hn).symm)))))
 show iw (aH (hx.symm.trans Y)) ?_
 show ai (jy (s:={s with heap:=j}) ((g.2 e q).trans K:nj j e c i d) rfl (x:=c6 i) rfl (ai (jy ((g.2 e q).trans K:nj j e c i d) rfl (x:= aN) rfl (ai (Cn (ai (kq ((g.2 e q).trans K:nj j e c i d) (jh rfl) λagz L t=>ai (kq L (jh rfl) λh k u=>?_))))))))
 replace k:nj h e c ((i:Int)+1) d:=k
 show ai (yH ?_)
 have m:nj (h.push (cP #[bL i s.toks,x] 0)) e c ((i:Int)+1) d:=dF _ k
 have M:h.objs.size=s.heap.objs.size:=![u.1,t.1,g.1]
 have U:∀b,b≠e->h.get? b=j.get? b:=λb I=>(u.2 b I).trans (t.2 b I)
 show ai (ai (jy (s:={s with heap:=h.push (cP #[bL i s.toks,x] 0),toks:=s.toks+1}) m rfl (x:= aN) rfl (aD (ai (iJ (ai (jy m rfl (x:=d) rfl (ai (kq m (jh rfl) λJ n v=>?_)))))))))
 replace n:nj J e c ((i:Int)+1) x:=n
 rwa[M]
 show ai (ai (kq (s:={s with heap:=J,toks:=s.toks+1}) n (jh rfl) λagA N y=>kq N (jh rfl) λz p B=>?_))
 replace p:IsEnumOut z e c ((i:Int)+1) x s.heap.objs.size:=p
 have Z:∀b,b≠e->z.get? b=(h.push (cP #[bL i s.toks,x] 0)).get? b:=λb I=>(B.2 b I).trans ((y.2 b I).trans (v.2 b I))
 show ai (yq (aD ⟨_,rfl,aD (hQ z p ?_ ?_ ?_ λb o V aas I=>(Z b V).trans (dF _ ((U b V).trans ((g.2 b aas).trans I))))⟩))
 .show bR H λo ho r=>?_
  show⟨o,(Z c q.symm).trans (dF _ ((U c q.symm).trans ho)),r⟩
 .rwa [Z _ (kv (dt K:e<s.heap.objs.size):s.heap.objs.size≠e),<-M]
  show dQ _ rfl
 .rwa [B.1,y.1,v.1,eP,M]
theorem aat{i:Nat}(n:A.handled=N)(h:nj s.heap e d i f)(j:s.heap.IsTupleIter d l i)(p:s.heap.IsTuple l c)(q:c[i]?=N)
(r:∀k,tw d s.heap k->a ae {s with heap:=k}):aj (ar pw w) A (gk (ao e)) a E s:=by
 show ai (qW (ma (name:=a0 "__next__") (⟨_,h,rfl⟩:s.TypeIs (ao e) "enumerate") zL (gE zL (⟨_,h,rfl⟩:s.TypeIs (ao e) "enumerate") Kc ?_ (Kd _))))
 show ai (aD (ai (jy h rfl (x:= ao d) rfl (ai (NV j p (λx g=>nn (q.symm.trans g)) λz=>⟨n,λk x m g=>?_⟩)))))
 show bR g λo t u=>?_
 show ai (qQ (T:= "StopIteration") (b:=af) ⟨o,t,u⟩ isSubtype_stop (aD (r _ m)))
theorem aau{A:bK}{Q:Bool->H->Prop}{E:K->H->Prop}(h:∀b,Q b s):V (Z a w) A (Rj c) Q E s:=J (wpAny_stack_any λd=>aD (h _))
theorem aav(l:aR)(a:Array K)(n:Nat):
 Meets (Builtin.«enumerate.__new__» ⟨[aZ "enumerate",M l],[]⟩) (λz R s=>s.heap.get? l=W (cP a n) /\
  R (fO (il (M (s.heap.push {cls:= aZ "tuple_iterator",data:= dU #[M l,bL 0 0]}).objs.size)))
   {s with heap:=(s.heap.push {cls:= aZ "tuple_iterator",data:= dU #[M l,bL 0 0]}).push {cls:= aZ "enumerate",data:= dU #[aN,eh Y,M s.heap.objs.size,c6 0,aN,aN]}}) :=
 .of_wp λe w A R s h=>by
  obtain⟨j,g,d,k,m⟩:=s;obtain⟨c,h⟩:=h
  have f:=sub_enumerate
  have i:Heap.IsTuple (Shared.heap ⟨j,g,d,k,m⟩) l a:=⟨_,c,rfl,n,rfl⟩
  wp_walk using Er c,aau
  intro b
  induction b
  .wp_walk using Er c,yw i
   show⟨_,rfl,h⟩
  .wp_walk using Er c,yw i
   show⟨_,rfl,h⟩
theorem aaw(P:s.heap.get? a=W (cP f m))(hm:¬g.Mt a)(U:f.size<=2^20)(V:RL w g s.heap f.toList j)
(hQ:∀I k,Opened MM w g s (j.mapIdx λi e=> aw [aq i,e]) I k->c (ao I) k):aj (ar pw w) A (b9 (aZ "enumerate") [ao a]) (λv k=>aj (ar pw w) A (ig v) c E k) E s:=by
 have p:=dt P
 have hz:(s.heap.push {cls:= aZ "tuple_iterator",data:= dU #[ao a,bL 0 0]}).objs.size=s.heap.objs.size+1:=eP ..
 show callType_new PySem.F.called_enumerate (aQ rfl) (PySem.F.typeCall_enumerate_1 _) (PySem.F.newCall_enumerate_1 _) (λW=>Ka W _) PySem.F.entry_enumerate_new (aav a f m) ⟨P,?_⟩
 show _/\_
 rwa[hz]
 have he:nj ((s.heap.push {cls:= aZ "tuple_iterator",data:= dU #[ao a,bL 0 0]}).push {cls:= aZ "enumerate",data:= dU #[aN,eh ah,ao s.heap.objs.size,c6 0,aN,aN]}) (s.heap.objs.size+1) s.heap.objs.size ((0:Nat):Int) aN:=by
  have:=dQ (s.heap.push {cls:= aZ "tuple_iterator",data:= dU #[ao a,bL 0 0]}) (o:={cls:= aZ "enumerate",data:= dU #[aN,eh ah,ao s.heap.objs.size,c6 0,aN,aN]}) rfl
  rw[hz]at this
  show this
 have t:Heap.IsTupleIter ((s.heap.push {cls:= aZ "tuple_iterator",data:= dU #[ao a,bL 0 0]}).push {cls:= aZ "enumerate",data:= dU #[aN,eh ah,ao s.heap.objs.size,c6 0,aN,aN]}) s.heap.objs.size a 0:=⟨_,dF _ (dQ _ rfl),rfl,rfl⟩
 have H:s.heap.objs.size+1≠s.heap.objs.size:=IM _
 have u:a≠s.heap.objs.size+1:=eU (jQ p)
 have J:a≠s.heap.objs.size:=eU p
 show⟨⟨_,he,rfl⟩,?_⟩
 show wpAny_pyIter_enum (s:={s with heap:=_}) he (hQ _ _ ⟨[s.heap.objs.size+1,s.heap.objs.size],[s.heap.objs.size+1,s.heap.objs.size,a],f.toList,j,
  (λi h=>(∃l,nj h (s.heap.objs.size+1) s.heap.objs.size i l)/\h.IsTupleIter s.heap.objs.size a i/\h.IsTuple a f),(cu.push s _).trans (cu.push _ _),by simp,λb n=>?_,λb n=>?_,V,λA' Y hh ht=>?_,⟨⟨_,he⟩,t,⟨_,dF _ (dF _ P),rfl,m,rfl⟩⟩,by simpa[<-V.f9]using U⟩)
 .simp only [bB,bc,or_false]at n
  have Z:((s.heap.push {cls:= aZ "tuple_iterator",data:= dU #[ao a,bL 0 0]}).push {cls:= aZ "enumerate",data:= dU #[aN,eh ah,ao s.heap.objs.size,c6 0,aN,aN]}).objs.size=s.heap.objs.size+2:=by rwa[eP,hz]
  show _/\b<((s.heap.push _).push _).objs.size
  rwa[Z]
  rcases n with rfl|rfl
  .show ⟨gW _,dP _⟩
  .show ⟨bG _,jQ (dP _)⟩
 .simp only [bB,bc,or_false]at n
  clear hz P t J u he;rcases n with rfl|rfl|rfl
  .show aY (by simp)
  .show aY (by simp)
  .show aW ⟨hm,p⟩
 .clear hz he;generalize s.heap.objs.size+1=eN at *
  clear p t;generalize s.heap.objs.size=iN at *
  show⟨λi h h' ⟨⟨l,z⟩,h2,B⟩ hk=>⟨⟨l,hk eN (by simp) _ z⟩,h2.at λo x=>hk iN (by simp) o x,B.at λo x=>hk a (by simp) o x⟩,λi g' r d Q' E' hd K GQ low GB L=>?_,λr Q' E' K L=>?_,λi r Q' E' K L=>wpAny_pyIter_enum K.1.choose_spec L⟩
  .obtain ⟨⟨l,z⟩,h2,B⟩:=K
   rw[List.getElem?_mapIdx]at hd
   show bR (ej.mp hd) λd0 nY gO=>?_;clear hd;obtain rfl:=gO
   show aV (GQ.get nY) λx hx rx=>?_
   have hx':f[i]?=aa x:=by rwa[<-jf];show hx
   show aar z h2 B hx' H λh' he' M hT N hk=>?_
   show⟨_,rfl,?_⟩
   induction Y using jE<;>first|cases ht|skip
   show wpAny_letOwnedTupleGo_enum he' λNW hen y=>?_
   have kk:Kept [eN,iN] r {r with heap:=NW,toks:=r.toks+1}:=⟨λb o n e=>(y.2 b (λq=>n (by simp[q]))).trans (hk b o (λq=>n (by simp[q])) (λq=>n (by simp[q])) e),by
    show r.heap.objs.size<=NW.objs.size
    rwa[y.1]
    show r.heap.objs.size<=h'.objs.size
    rwa[N];show gW _,rfl,rfl⟩
   show L _ _ (.tup ((y.2 _ (kv (dt z):r.heap.objs.size≠eN)).trans hT) (λq=>cq _ (low _ q)) (by simp) (.cons (.int _ _) (.cons (rx.ext kk.step.ext GB) .nil))) ⟨⟨_,hen⟩,M.at λo e=>(y.2 iN H.symm).trans e,B.at λo e=>(y.2 a u).trans (hk a o u J e)⟩ kk
  .obtain ⟨⟨l,z⟩,h2,B⟩:=K
   show j5 (aat hh z h2 B (zG (by simp[<-V.f9])) λh' hx y=>L _ ⟨λb o n e=>hx b o (λq=>n (by simp[q])) e,y,rfl,rfl⟩)
end
theorem NX(p:bA w n x):jo w n (.enum x):=λe M h q N g s P r U A Q E b F t u l=>FV u λd y m=>bW h λa z h=>by
 induction d using bJ<;>first|show nn m|skip
 rw[<-aH m]at l
 show AY p z h (f:= aZ "enumerate") (by simp[k8]) b F t y λv B s' st i rv=>by
  show k4 rv λa V n j H K k L=>?_;obtain rfl:=j
  show aaw H K k L λJ c o=>l J B s' c st i o
def RP(w:aU)(g:G)(h:b0)(a:List (K×K))(b:List (D×D)):Prop:=RL w g h (a.map (·.1)) (b.map (·.1))/\RL w g h (a.map (·.2)) (b.map (·.2))
def xt(w:aU)(n:Nat)(l:XP):Prop:=∀(f:List (Option aX)) (h:List aX) (i:NS),oW i l f h=U->∀{a:c8} {j:Fm} {g:G} {s:H} {k b:St} {m:List (D×D)} {A:bK} {d:d6} {Q:List (K×K)->H->Prop} {E:K->H->Prop},
 Inv w g s k->bo w g s.heap a i j->eK n A->mI tb (run n) l j k=W (m,b)->(∀o e c,Step [] g s e c->Sat w e c.heap b->RP w e c.heap o m->Q o c)->V (Z pw w) A (yI (yJ f h a d)) Q E s
section
variable{w:aU}{n:Nat}
theorem aax:xt w n iB:=λj k l h c m g s o d p A e Q E I F q f i=>by
 show cR (FI h) λa b=>?_;clear h;obtain rfl:=a;obtain rfl:=b
 cases f
 show aD (i [] g s (.refl ..) I.sat ⟨.nil,.nil⟩)
theorem NY{g:Fm}(h:mI tb (run n) (jl k v l) g b=W (c,a)){P:List (D×D)->Prop}(f:∀i d j e r,ev tb (run n) k g b=W (i,d)->ev tb (run n) v g d=W (j,e)->mI tb (run n) l g e=W (r,a)->P ((i,j)::r)):P c:=by
 obtain⟨⟨i,d⟩,p,h⟩:=jj h
 obtain⟨⟨j,e⟩,q,h⟩:=jj h
 obtain⟨⟨r,s⟩,t,h⟩:=fX h
 show cR (cO h) λm o=>?_;clear h;obtain rfl:=m;obtain rfl:=o
 show f _ _ _ _ _ p q t
theorem aay(U:bA w n k)(t:bA w n v)(V:xt w n l):xt w n (jl k v l):=λL M u h d ρ g s σ y z A f Q E I F B W H=>
 FH (P:=λL M=>aj (ar pw w) A (yI (yJ L M d f)) Q E s) h λa b r q Y Z h3=>NY (P:=λz=>(∀J K p,Step [] g s K p->Sat w K p.heap y->RP w K p.heap J z->Q J p)->aj (ar pw w) A (yI (yJ (aa a::r) (b::q) d f)) Q E s) W (λd1 σ1 d2 σ2 z e1 e2 e3 H=>by
  show aj _ _ (yI ((bw a d,do let x <-bw b d;jA f;bx x)::yJ r q d f)) Q E s
  show ai (U a u Y I F B e1 λva g1 s1 c e ra=>?_)
  show ai (cU (ai (t b u Z (I.bz c e) (F.step I c) B e2 λvb g2 s2 i m rb=>ai (gU (aD ?_)))))
  show ai (cU (V r q u h3 ((I.bz c e).bz i m) ((F.step I c).step (I.bz c e) i) B e3 λJ g3 s3 j o N=>aD
   (H _ g3 s3 ((c.trans i).trans j) o ⟨.cons ((ra.ext i.ext (λX h=>aF h bc)).ext j.ext (λX h=>aF h bc)) N.1,.cons (rb.ext j.ext (λX h=>aF h bc)) N.2⟩)))) H
def lX(b:Option (List (D×D)))(p:D×D):Option (List (D×D)):=b.bind λa=>if keyOk a p.1 then W (cp a p.1 p.2)else N
theorem NZ(l:List (D×D)):l.foldl lX N=N:=by
 induction l with
 |nil=>rfl
 |cons p r a=>show a
theorem N0 :(cp a k v).length<=a.length+1:=by
 unfold cp
 cases cW a k with
 |none=>show bC cF
 |some i=>show gV (bC (I7 ..))
theorem aaz{E:K->H->Prop}(hu:j.units+100<cv)(hz:d∈g.Z)(N:RP w g s.heap t l)(Y:DictAt w g s.heap d v m k)(Z:k.length+l.length<=2^20)
(x:l.foldl lX (aa k)=aa r)(L:∀H I m' P,gp d s.heap H->DictAt w g H d I m' r->i iS {s with heap:=H,toks:=P}):aj (ar pw w) j (storeAll d t) i E s:=by
 induction l generalizing t k v m s with
 |nil=>
  rw[Dr.mp (show t.map (·.1)=[]from N.1),]at *
  revert L;show iw (aH x) λL=>?_
  unfold storeAll
  show aD (L s.heap v m s.toks (zA _ _) Y)
 |cons p l ih=>
  induction t using bH with
  |nil=>obtain⟨⟨n,n,h,n⟩,n⟩:=N;show KN h
  |cons u ur=>
   obtain⟨⟨n,n,e1,rk,r1⟩,⟨n,n,e2,rv,r2⟩⟩:=N
   show cR (jG e1) λy z=>?_;clear e1;obtain rfl:=y;obtain rfl:=z
   show cR (jG e2) λy z=>?_;clear e2;obtain rfl:=y;obtain rfl:=z
   by_cases M:keyOk k p.1=af
   .have x:l.foldl lX (aa (cp k p.1 p.2))=aa r:=by rwa[<-x];show aI (l.foldl lX) (aJ M).symm
    have Z:k.length+(l.length+1)<=2^20:=Z
    unfold storeAll
    rwa[ny]
    show cR (Ag M) λk1 k2=>?_
    show ai (ai ?_)
    unfold dictSet
    try with_reducible show cU ?_
    show ai (R.hash rk k1 (u8 (by assumption) k2) ?_)
    show EH (s:={s with toks:=s.toks+p.1.draws}) hu Y rk rv M (bY (ew ..) ‹_›) λH I n' a b c e f=>aD ?_
    have U:∀b o,b∉[d]->s.heap.get? b=aa o->H.get? b=aa o:=λb o hb e=>a.extBut b o (λq=>hb (bI.mpr q)) e
    have B:∀a∈[d],a∈g.Z:=λa h=>bI.mp h▸hz
    show ih (s:={s with heap:=H,toks:=s.toks+p.1.draws}) ⟨r1.cA U B,r2.cA U B⟩ ⟨b,c,e,f.cA U B⟩ (aC (kS N0 _) (aC (bC (kT ..)) (by assumption))) x
     λV J W P sb K=>L V J W P (a.trans sb) K
   .have x:l.foldl lX ae=aa r:=by rwa[<-x];show aI (l.foldl lX) (aL M).symm
    rw[NZ]at x;show nn x
theorem RE.aaA(r:RE w g h v d)(k:∀b o,¬g.Mt b->h.get? b=W o->e.get? b=W o)(f:∀a,¬g.Mt a->a<h.objs.size->¬c.Mt a)(i:∀(n:Nat) p,g.θ[n]?=W p->c.θ[n]?=W p):RE w c e v d:=RE.move k f i r
theorem N1{m:Bool}{L:aR}(I:Inv w g s t)(G:cu s j)(H:s.heap.objs.size<=L)(M:Step [L] (g.more [L]) j h c)(B:Sat w h c.heap i)(v:DictAt w h c.heap L r k f)
(z:(if m then(ak i.length,i++[a8 f])else(dG f,i))=(d,l))(N:PE w g s l d b):b (ao L) c:=by
 have J:=Step.leave (own:=[L]) (g:=g) G (by simpa using H) M λa P=>P
 have x:∀a∈g.Z,a∈h.Z:=o5 M
 have u:L∈h.Z:=by rwa[M.ext.z];show dT _ (a7 ..)
 have y:L∉g.Z:=λq=>cq _ (bg (I.jn _ q) H)
 have A:(L==jw)=ah:=beq_eq_false_iff_ne.mpr λe=>aF w2 (i8.mpr (e▸aC I.base.y.size H))
 induction m with
 |false=>
  cases z
  show N _ (h.less g.Z) c J (B.leave x) (.ji v.at_ ⟨λq=>?_,A⟩ v.sz v.nd (v.re.leave x))
  rcases q with q|q
  .show B.fz _ q u
  .show y q
 |true=>
  cases z
  have U:RE w ((h.less g.Z).add (L,L)) c.heap r f:=v.re.move (λn n n e=>e) (λa hm n q=>by
   clear A M y H v;rcases uB.mp q with q|rfl|rfl
   .show hm (oZ x q)
   .show hm (aW u)
   .show hm (aW u)) λk q e=>by
   show(h.θ++[_])[k]?=aa q
   rwa[fB (cD.mp e).1];show e
  obtain⟨K,V⟩:=MZ (p:=(L,L)) (o:= a8 f) B x ⟨u,u⟩ ⟨y,y⟩ (x2 r k ⟨rfl,v.at_,v.sz,v.nd,U⟩)
  show N _ _ _ (M0 J ⟨H,H⟩) K V
theorem xu{g:NS}{l:XP}{c:List (Option aX)}{d:List aX}(h:oW g l c d=U):c.all (·.isSome)=U/\c.length=d.length:=by
 match l,h with
 |.nil,h=>show cR (FI h) λe f=>?_;clear h;obtain rfl:=e;obtain rfl:=f;show⟨rfl,rfl⟩
 |.cons k v l,h=>show FH (P:=λc d=>c.all (·.isSome)=U/\c.length=d.length) h λa b r q z z h=>⟨(xu h).1,aI (· +1) (xu h).2⟩
theorem N2{o:Fm}{m:List (Option aX)}(h:mI tb (run n) l o f=W (c,d))(j:oW i l m g=U):c.length=m.length:=by
 match l,h,j with
 |.nil,h,j=>cases h;rwa[(FI j).1];rfl
 |.cons k v l,h,j=>show FH (P:=λm z=>c.length=m.length) j λa b r q z z j=>NY (P:=λc=>c.length=_) h λz z z z z z z e=>aI (· +1) (N2 e j)
theorem aaB(hl:xt w n l):bA w n (t6 m l):=λe ns h z ρ g s σ σ' d A Q E I F L v M=>
 WA (P:=λe=>aj (ar pw w) A (bw e z) Q E s) h λN vs pos k h=>by
 obtain⟨⟨ps,σ1⟩,B,v⟩:=jj v
 show eG (v) λout U j=>?_
 have H:=N2 B h
 have G:=cu.push s (eb [] 0)
 have c:∀a∈[s.heap.objs.size],a=s.heap.objs.size:=λa h=>bI.mp h
 have x:Inv w (g.more [s.heap.objs.size]) {s with heap:=s.heap.push (eb [] 0)} σ:=I.enter G (λa h=>bC (c a h).symm) λa ha=>by
  rwa[c a ha];show _<(s.heap.push _).objs.size;rwa[eP];show dP _
 have p:∀{g h},h.get? s.heap.objs.size=aa (eb [] 0)->DictAt w g h s.heap.objs.size [] 0 []:=λe=>⟨e,cQ _,wo,.nil⟩
 have V:(s.heap.push (eb [] 0)).get? s.heap.objs.size=aa (eb [] 0):=dQ _ rfl
 by_cases W:N=[]
 .clear k;subst W
  obtain rfl:=ml.mp (xu h).2.symm
  induction l using XP.casesOn with
  |cons=>show ff h
  |nil=>
   clear H v;cases B
   cases U
   show wpAny_Dict_empty (N1 I G (bG _) (.refl ..) x.sat (p V) j M)
 .show wpAny_Dict_any (xu h).1 (xu h).2 W (by assumption) ?_
  show hl N vs ns h x (F.enter (own:=[s.heap.objs.size]) G λa h=>bC (c a h).symm) L B λus J y i r rp=>?_
  have t:s.heap.objs.size∈(g.more [s.heap.objs.size]).Z:=dT _ a7
  have u:s.heap.objs.size∈J.Z:=by rwa[i.ext.z];show t
  show aaz (lb L.units (aQ rfl)) u rp (p (i.ext.keep _ _ (λf=>x.sat.fz _ f t) (λh=>aF h bc) V)) (by show 0+_<=_;lia) U λY es' m' tk Z da=>?_
  have kk:∀b o,b∉[s.heap.objs.size]->y.heap.get? b=aa o->Y.get? b=aa o:=λb o hb e=>Z.extBut b o (λq=>hb (bI.mpr q)) e
  have K:Step [s.heap.objs.size] J y J {y with heap:=Y,toks:=tk}:=Step.cA (dr:=y.drawn) kk (bC Z.1.symm)
  show N1 I G (bG _) (i.nil.trans K) ((x.bz i r).sat.cA kk λa h=>(c a h)▸u) da j M
theorem aaC(a:gJ x=U)(b:gJ y=U):gJ (x++y)=U:=by
 unfold gJ at *
 show(x.cps++y.cps).all _=U
 rwa[Array.all_append,a,b];rfl
theorem aaD(V:bA w n x):bA w n (.tX x a):=λe W h c ρ g s σ Y d A Q E I F Z f o=>by
 have sz:fL=2^24:=rfl
 obtain⟨⟨J,σ1⟩,K,f⟩:=jj f
 show eG (f) λd2 q f=>?_
 obtain⟨rfl,rfl⟩:=cO f
 obtain⟨t,rfl⟩:∃t,J= bl t:=by clear o f K;induction J using bJ<;>first|show nn q|show⟨_,rfl⟩
 obtain⟨i,q⟩:=iff q
 clear f;revert o;show iw (aH q) λo=>?_
 have c1:t.cps.size<2^20:=i.1
 have c2:(a0 a).cps.size<2^20:=i.2
 have L:∀x:bu,(Dc++x:bu)=x:=λx=>by
  show(⟨#[]++x.cps⟩:bu)=x
  rwa[JO]
 have M:∀x y:bu,(x++y).length=x.cps.size+y.cps.size:=λx y=>JR
 show WB (P:=λe=>aj (ar pw w) A (bw e c) Q E s) h λv p1 k N p z hc=>by
  show wpAny_JoinedStr ?_
  show Joins _ _ _ [bw (zx v (-1) ae p1) c,bw (mv (.str (a0 a)) k N) c] _ _ s
  show wpAny_FormattedValue_plain (V v W hc I F Z K λva g1 r B j rv=>?_)
  show ee va rv λtt H=>?_
  have l:∀(u:Tok)(U:Nat),(λv b=>∃y t',v=fU y t'/\(Dc++y).length<=fL/\Joins (ar pw w) A E [bw (mv (.str (a0 a)) k N) c] (Dc++y) (λm b=>m.length<=fL/\Q (fU m b.toks) {b with toks:=b.toks+1}) b) (fU t u) {r with toks:=U}:=λu U=>by
   show x2 t u ⟨rfl,by rwa[L];show t.cps.size<=_;lia,?_⟩
   rwa[L]
   show aj _ _ _ _ _ _
   show IE (x2 _ _ ⟨rfl,by rwa[M];lia,by rwa[M];lia,?_⟩)
   show o _ g1 _ (B.trans (.toks _)) j (.str _ _ (aaC H z))
  show wpAny_formatField_str (l tt r.toks) (l r.toks (r.toks+1)) (by show t.cps.size<=_;lia)
end
structure Src (w:aU) (A:bK) (I:aR) (own fp:List aR) (vs:List az) (eQ ds:List D) (St:Nat->b0->Prop):Prop where
 frame:∀i h h',St i h->(∀b∈fp,∀o,h.get? b=aa o->h'.get? b=aa o)->St i h'
 item:∀i (g:G) (s:aA) (d:D) (Q:Option az->aA->Prop) (E:az->aA->Prop),ds[i]?=aa d->St i s.heap->RL w g s.heap vs eQ->g.iT s.heap->(∀a∈own,a∈g.Z) ->
  (∀v s',R w g s'.heap v d->St (i+1) s'.heap->Kept own s s'->Q (aa v) s')->aj (ar pw w) A (gk (ao I)) Q E s
 done:∀(s:aA)(Q:Option az->aA->Prop)(E:az->aA->Prop),St ds.length s.heap->(∀s',Kept own s s'->Q ae s')->aj (ar pw w) A (gk (ao I)) Q E s
section
variable{w:aU}{A:bK}{E:az->aA->Prop}{R:km->aA->Prop}
theorem Kept.weaken{d own':List aR}(k:Kept d s c)(h:∀a∈d,a∈own'):Kept own' s c:=⟨λb o f e=>k.keep b o (λq=>f (h b q)) e,k.size,k.gens,k.os⟩
theorem aaE{I S:aR}{p fp:List aR}{St:Nat->b0->Prop}(W:Src w A.in1 I p fp h f d St)(V:∀a∈p,a∈g.Z)(hS:S∈g.Z)(H:S∉p)(Y:S∉fp)(J:d.length<=2^20)(K:az):
 ∀(k i:Nat)(s:aA)(m:Array az)(c:Nat),i+k=d.length->St i s.heap->RL w g s.heap h f->g.iT s.heap->s.heap.get? S=aa (bO m c)->RL w g s.heap m.toList (d.take i) ->
 (∀l n Z,Kept (S::p) s l->l.heap.get? S=aa (bO n Z)->RL w g l.heap n.toList d->R (fO (il K)) l) ->
 gm (ar pw w) A (kC "list.extend.loop" ⟨[ao S,ao I,K],[]⟩) R s:=by
 have sz:fL=2^24:=rfl
 intro k
 induction k with
 |zero=>
  intro i s m c L x rl y z j hR
  have GR:i=d.length:=L
  clear L;subst GR
  show nk Ke ?_
  show aj _ A.in1 (gk (ao I)>>=_) _ _ s
  show ai (W.done s _ _ x λl t=>?_)
  rw[pP]at j
  show aD (hR l m c (t.weaken λa M=>bq _ M) (t.keep _ _ H z) (j.uC t V))
 |succ k ih=>
  intro i s m c L x rl y z j hR
  have B:=tM L
  have u:m.size<2^20:=bg (bY (aC (bC j.f9) (List.length_take_le ..)) B) J
  show nk Ke ?_
  show aj _ A.in1 (gk (ao I)>>=_) _ _ s
  show ai (W.item i g s d[i] _ _ (dn B) x rl y V λv l rv N t=>?_)
  have P:=t.keep _ _ H z
  show aj _ A.in1 (yK S (·.push v)>>=_) _ _ _
  show ai (yL P rfl (aD ⟨qX Kf _,?_⟩) (aC (eL u) (aQ rfl)) (aC (bC (wg ..)) (aC u (aQ rfl))))
  have r:∀b o,b∉[S]->l.heap.get? b=aa o->(l.heap.update S (jF (·.push v))).get? b=aa o:=λb o hb e=>(vW _ _ (λq=>hb (by simp[q]))).trans e
  have Q:∀a∈[S],a∈g.Z:=by simpa using hS
  have kp2:Kept [S] l {l with heap:=l.heap.update S (jF (·.push v))}:=⟨r,by show l.heap.objs.size<=(l.heap.update S _).objs.size;rwa[zq];show bG _,rfl,rfl⟩
  have U:Kept (S::p) s {l with heap:=l.heap.update S (jF (·.push v))}:=(t.weaken λa M=>bq _ M).trans (kp2.weaken (by simp))
  obtain⟨Z,hc'⟩:=qd (λxs=>xs.push v) P
  show ih (i+1) _ (m.push v) Z (zW L) (W.frame _ _ _ N λb hb o e=>r b o (λq=>Y (by rwa[<-bI.mp q];show hb)) e) ((rl.uC t V).cA r Q)
   (λa M=>bg (y a M) U.size) hc' ?_ λs'' n c'' k'' h1 h2=>hR s'' n c'' (U.trans k'') h1 h2
  rwa[tD,Ds,dn B]
  show((j.uC t V).cA r Q).append (.cons (rv.cA r Q) .nil)
noncomputable def agB:List (String×String):=[("dict", "dict.__len__"),("dict_items", "dict_items.__len__"),("set", "set.__len__")]
theorem aaF:mc (aZ "dict_items") "__len__" =bx (W (bM "dict_items.__len__")):=by rwa[sU,sV];kernel_rfl
theorem len_dict:mc (aZ "dict") "__len__" =bx (W (bM "dict.__len__")):=by rwa[sU,sV];kernel_rfl
theorem aaG:mc (aZ "set") "__len__" =bx (W (bM "set.__len__")):=by rwa[sU,sV];kernel_rfl
theorem aaH{x S:aR}{T:String}{s:aA}{o:az}{c:Nat}(v:T= "dict" \/T= "dict_items" \/T= "set") (H:s.TypeIs (ao x) T) (K:x<s.heap.objs.size) (J:S≠x) (L:s.heap.get? S=W (bO #[] c))
 (h:V (ar pw w) A.in1 (ig (ao x)) (λu a=>∃I,u= ao I/\a.TypeIs (ao x) T/\a.heap.get? S=W (bO #[] c)/\∀p r,gp S a.heap p->p.get? S=W (bO #[] r) ->
  gm (ar pw w) A (kC "list.extend.loop" ⟨[ao S,ao I,o],[]⟩) R {a with heap:=p}) (λe m=>R (jS e) m) s):
 V (ar pw w) A.in1 (wq (ao S) (ao x) o) (λl m=>match l with|.done f=>R (fO f) m|.again t=>t.quiet=U/\gm (ar pw w) A t R m) (λe m=>R (jS e) m) s:=by
 have y:Builtin.List.listSameRef (ao S) (ao x)=Y:=ef ‹_›
 show ai (nf H ?_)
 have l:∀(I:aR)(a:aA),a.heap.get? S=W (bO #[] c)->(∀p r,gp S a.heap p->p.get? S=W (bO #[] r)->gm (ar pw w) A (kC "list.extend.loop" ⟨[ao S,ao I,o],[]⟩) R {a with heap:=p}) ->
  V (ar pw w) A.in1 (rule "list.extend.makes-room" >>=λZ=>Builtin.List.listTouch (ao S)>>=λZ=>again (kC "list.extend.loop" ⟨[ao S,ao I,o],[]⟩))
   (λl m=>match l with|.done f=>R (fO f) m|.again t=>t.quiet=U/\gm (ar pw w) A t R m) (λe m=>R (jS e) m) a:=λI a i q=>by
  show ai (iJ ?_)
  show ai ?_
  show V _ A.in1 (yK S (·.push aN)>>=λZ=>yK S (·.pop)) _ _ _
  show ai (yL i rfl ?_)
  obtain⟨M,n⟩:=qd (λz=>z.push aN) i
  show yL (hz:=by seq_fits) n rfl ?_
  obtain⟨r,B⟩:=qd (λz=>z.pop) n
  show aD ⟨qX Kf _,q _ r ((iu ..).trans (iu ..)) (by assumption)⟩
 clear H;rcases v with rfl|rfl|rfl
 .rwa [aL (by rwa[y];decide)]
  show ai (ed h (λu a j=>?_) λZ Z e=>e)
  show zZ j λI Q d i q=>?_;obtain rfl:=Q
  show ai (cU ?_)
  unfold DY
  show ai (pF d len_dict ?_)
  (generalize g:("dict.__len__" :String)=k;(fail_if_success (clear g k));wp_delta;rwa[show splitId k=W ("dict", "__len__")from by subst g;decide +kernel];subst g)
  show ai (qQ (b:=U) d (by rwa[yM];kernel_rfl) ?_)
  show V _ A.in1 (oi (ao x)>>=_) _ _ a
  show ai (nf d (aD ?_))
  show l I a i q
 .rwa [aL (by rwa[y];decide)]
  show ai (ed h (λu a j=>?_) λZ Z e=>e)
  obtain⟨I,rfl,d,i,q⟩:=j
  show ai (cU ?_)
  unfold DY
  show ai (pF d aaF ?_)
  (generalize g:("dict_items.__len__" :String)=k;(fail_if_success (clear g k));wp_delta;rwa[show splitId k=W ("dict_items", "__len__")from by subst g;decide +kernel];subst g)
  show ai (qQ (b:=U) d (by rwa[yM];kernel_rfl) ?_)
  show V _ A.in1 (oi (ao x)>>=_) _ _ a
  show ai (nf d (aD ?_))
  show l I a i q
 .rwa [aL (by rwa[y];decide)]
  show ai (ed h (λu a j=>?_) λZ Z e=>e)
  obtain⟨I,rfl,d,i,q⟩:=j
  show ai (cU ?_)
  unfold DY
  show ai (pF d aaG ?_)
  (generalize g:("set.__len__" :String)=k;(fail_if_success (clear g k));wp_delta;rwa[show splitId k=W ("set", "__len__")from by subst g;decide +kernel];subst g)
  show ai (qQ (b:=U) d (by rwa[yM];kernel_rfl) ?_)
  show V _ A.in1 (oi (ao x)>>=_) _ _ a
  show ai (nf d (aD ?_))
  show l I a i q
end
set_option backward.match.sparseCases true
structure aaI (w:aU) (g:G) (s:aA) (vs:List az) (eQ ds:List D) (I:aR) (s₁:aA):Prop where
 ex:∃own fp St,cu s s₁/\(∀a∈own,s.heap.objs.size<=a/\a<s₁.heap.objs.size)/\(∀b∈fp,b∈own\/∃o,s.heap.get? b=aa o/\o.cls≠ aZ "list") /\
  (∀A:bK,A.handled=ae->Src w A I own fp vs eQ ds St)/\St 0 s₁.heap
structure qz (w:aU) (T:String) (x:aR) (g:G) (s:aA) (P:List D->Prop):Prop where
 ty:s.TypeIs (ao x) T
 len:∀ds,P ds->ds.length<=2^20
 aaJ:∃vs eQ,RL w g s.heap vs eQ/\∀(s₁:aA)(A:bK)(Q:az->aA->Prop)(E:az->aA->Prop),A.handled=ae->cu s s₁->g.iT s₁.heap->(∀I qw ds,P ds->aaI w g s₁ vs eQ ds I qw->Q (ao I) qw)->aj (ar pw w) A (ig (ao x)) Q E s₁
section
variable{w:aU}{A:bK}{E:az->aA->Prop}{g:G}{s:aA}{σ:St}
theorem N3{T:String}(h:s.TypeIs (M x) T):x<s.heap.objs.size:=aV h λz h z=>dt h
theorem uN{T:String}(G:cu s a)(h:s.TypeIs (M x) T):a.TypeIs (M x) T:=aV h λo h q=>⟨o,G.keep _ _ h,q⟩
theorem N4{x:aR}{T:String}{P:List D->Prop}{R:km->aA->Prop}{B:az}{c:Nat}{d:aA}(V:T= "dict" \/T= "dict_items" \/T= "set") (Y:A.handled=ae) (I:Inv w g s σ) (L:qz w T x g s P) (G:cu s d) {S:aR} (hS:s.heap.objs.size<=S) (i:d.heap.get? S=aa (bO #[] c))
 (hR:∀k h c' ds,P ds->cu s k->k.heap.get? S=aa (bO h c')->RL w g k.heap h.toList ds->R (fO (il B)) k):
 aj (ar pw w) A.in1 (wq (ao S) (ao x) B) (λZ k=>match Z with|.done f=>R (fO f) k|.again c'=>c'.quiet=af/\gm (ar pw w) A c' R k) (λe k=>R (jS e) k) d:=by
 have Q:S≠x:=λe=>cq _ (bg (N3 L.ty) (e▸hS))
 have z:g.iT d.heap:=λa l=>bg (I.mO a l) G.size
 show jW (L.aaJ) λvs eQ rl pn=>?_
 show aaH V (uN G L.ty) (N3 (uN G L.ty)) Q i (pn d _ _ _ Y G z λJ m ds hP op=>?_)
 show k4 op.ex λj fp Sf r n pb W lV=>?_
 show⟨J,rfl,uN r (uN G L.ty),r.keep _ _ i,λh3 c3 M H=>?_⟩
 have p:=dt i
 have t:S∉j:=λq=>cq _ (bg p (n S q).1)
 have u:S∉fp:=λq=>by
  rcases pb S q with q|⟨o,ho,GI⟩
  .show t q
  .rw [i]at ho;cases ho;show GI rfl
 have ho:∀a∈S::j,s.heap.objs.size<=a:=λa l=>by
  clear M hR t i p H Q u;rcases bB.mp l with rfl|l
  .show hS
  .show aC G.size (n a l).1
 have v:Kept [S] m {m with heap:=h3}:=⟨λb o hb e=>M.extBut b o (λq=>‹¬_› (bB.mpr (aY q))) e,bC M.1.symm,rfl,rfl⟩
 have N:RL w (g.more (S::j)) m.heap vs eQ:=rl.enter (G.trans r) ho
 .have K:∀a∈[S],a∈(g.more (S::j)).Z:=λa l=>dT _ (by rwa[bI.mp l];show a7 ..)
  show aaE (W A.in1 Y) (g:=g.more (S::j)) (λa l=>dT _ (bq _ l)) (K S (a7 ..)) t u (L.len ds hP) B ds.length 0 _ #[] c3 (iK _) ((W A.in1 Y).frame 0 _ _ lV λb hb o e=>v.keep b o (λq=>u (by rwa[<-bI.mp q];show hb)) e)
   (N.uC v K) (λa l=>?_) H (kz _) λk h c' kp hS' U=>?_
  .show a<h3.objs.size
   rwa[M.1]
   rcases lT.mp l with q|q
   .show bg (z a q) r.size
   .clear M ho N t u K l hR i H v Q hS;rcases bB.mp q with rfl|q
    .show bg p r.size
    .show (n a q).2
  .have y:=(v.weaken (own':=S::j) (by simp)).trans kp
   show hR k h c' ds hP (⟨λb o e=>y.keep b o (λq=>cq _ (bg (dt e) (ho b q))) (r.keep _ _ (G.keep b o e)),aC G.size (aC r.size y.size),y.gens.trans (r.gens.trans G.gens),y.os.trans (r.os.trans G.os)⟩:cu s k) hS' (U.move (λX X X e=>e) (λa hm X q=>hm (lT.mpr (aY q))) λX X e=>e)
noncomputable def aaK(v:K):eT (List K):=match v with
 |.ref a=>do
  let o <-load a
  match o.data with
  |.seq b _=>bx b.toList
  |_=>unsupported "internal:collect"
 |_=>unsupported "internal:collect"
theorem aaL{T:String}(f:T= "dict" \/T= "dict_items" \/T= "set") (i:A.handled=N) (I:Inv w g s σ) (j:qz w T x g s a)
 (k:∀h c d,a d->cu s c->RL w g c.heap h d->b h c):V (Z pw w) A (vu (M x)) b E s:=by
 unfold vu
 show J (wpAny_runValue (nk PySem.F.entry_proto_collect ?_))
 show V _ A.in1 (newList []>>=λl=>again (kC "list.__iadd__" ⟨[l,M x],[]⟩)) _ _ s
 show J (yC ?_)
 show aD ⟨qX PySem.F.plain_list_iadd _,nk PySem.F.entry_list_iadd ?_⟩
 show V _ A.in1 (wq (M s.heap.objs.size) (M x) (M s.heap.objs.size)) _ _ _
 show N4 (R:=λr c=>match r with|.ok (il v)=>V (Z pw w) A (aaK v) b E c|.ok _=>False|.error e=>E e c) f i I j (cu.push s (bO #[] 0)) (bG _) (dQ _ rfl) λc m q d n G o p=>?_
 show V _ A (load s.heap.objs.size>>=_) _ _ c
 show J (qS o ?_)
 show aD (k _ c d n G p)
theorem aaM{x:aR}{T:String}{m:List D}{Q:K->aA->Prop}(i:T= "dict" \/T= "dict_items" \/T= "set") (q:A.handled=N) (I:Inv w g s σ) (n:qz w T x g s (· =m)) (r:PE w g s σ (ay m) Q):
 V (ar pw w) A (b9 (aZ "list") [M x]) Q E s:=by
 show callType_codes (Q₁:=λd a=>d= M s.heap.objs.size/\a={s with heap:=s.heap.push (bO #[] 0)}) PySem.F.called_list (PySem.F.typeCall_list_1 _) PySem.F.entry_list_init
  (code_list_new _ ⟨rfl,rfl⟩) λd a f=>?_
 obtain⟨rfl,rfl⟩:=f
 have h:(s.heap.push (bO #[] 0)).get? s.heap.objs.size=W (bO #[] 0):=dQ _ rfl
 show⟨⟨_,h,rfl⟩,PySem.F.args_list_init_2 _ _,?_⟩
 show V _ _ (do let j <-Builtin.List.listItems (M s.heap.objs.size);Builtin.List.listUpdate (M s.heap.objs.size) (λZ=>#[]);letGo j.toList.reverse;wq (M s.heap.objs.size) (M x) aN) _ _ _
 show J ?_
 show J (Cr h rfl (aD ?_))
 show V _ _ (yK s.heap.objs.size (λZ=>#[])>>=λZ=>letGo (#[]:Array K).toList.reverse>>=λZ=>wq (M s.heap.objs.size) (M x) aN) _ _ _
 show J (yL h rfl ?_)
 show dM (qd (λZ=>(#[]:Array K)) h) λB c=>?_
 show J (yq ?_)
 have t:cu s {s with heap:=(s.heap.push (bO #[] 0)).update s.heap.objs.size (jF λZ=>#[])}:=⟨λb o e=>(vW _ _ (kv (dt e))).trans (dF _ e),by show _<=(Heap.update _ _ _).objs.size;rwa[zq,eP];show gW _,rfl,rfl⟩
 show N4 (A:=A.in1) i q I n t (bG _) c λu k H v y G z p=>⟨rfl,?_⟩
 subst y
 have l:k.size<=2^20:=by have:=p.f9;have:=n.len _ rfl;show P (bC ‹_›) ‹_›
 show r _ g u (lU G _) (r6 I G) (.lst z (xr I (bG _)) l p)
end
set_option backward.match.sparseCases false
section
variable{w:aU}{A:bK}{E:az->aA->Prop}{s:aA}{g:G}
theorem aaN(e:(d==jw)=Y)(c:s.heap.get? d=W (eb b m))
(f:a (ao s.heap.objs.size) {s with heap:=s.heap.push {cls:= aZ "dict_keyiterator",data:= dU #[ao d,bL 0 0,bL b.length 0,bL m 0]}}):aj (ar pw w) A (ig (ao d)) a E s:=by
 show CM (⟨_,c,rfl⟩:s.TypeIs (ao d) "dict") Kg (gE Kg (⟨_,c,rfl⟩:s.TypeIs (ao d) "dict") PySem.F.entry_dict_iter ?_ (PySem.F.args_dict_iter_1 _))
 show ai ?_
 show ai (sO (⟨_,c,rfl⟩:s.TypeIs (ao d) "dict") ?_)
 show aj _ _ (bx (ao d)) _ _ s
 show aD ?_
 show aj _ _ (Es d>>=_) _ _ s
 unfold Es
 rwa[aL (by rwa[e];show fe)]
 show ai (aD ?_)
 show ai (qR c rfl ?_)
 show ai (yN c rfl ?_)
 show ai (ng (aD ⟨_,rfl, "dict_keyiterator",_,⟨_,dQ _ rfl,rfl⟩,DT.lookup,?_⟩))
 assumption
theorem ne_self{a:Int}:¬(a !=a)=U:=by rwa[bne_self_eq_false];show fe
theorem xw{d:aR}{o:cC}{h:Array K}{k:Nat}(j:A.handled=N)(l:s.heap.get? d=W o)(n:o.data= dU h)(p:k<h.size){Q:Option K->H->Prop}(q:∀i,tw d s.heap i->Q N {s with heap:=i}):
 V (Z pw w) A.in1 (do pJ (M d) k aN;raiseNew (<-newExc (aZ "StopIteration") [])) (λ(f:Fin) c=>∃v,f= nG (il v)/\(λv c=>V (Z pw w) A (bx (W v)) Q E c) v c)
  (λe c=>V (Z pw w) A (do if <-vw e (aZ "StopIteration")then bx N else throw e) Q E c) s:=by
 show J (yG l n p ?_)
 show V _ _ (newExc (aZ "StopIteration") []>>=_) _ _ _
 show J ?_
 show J (ng ?_ (by size_fits))
 show J (m:=firstArgMember _ _) (yD (a:=aN) (by first|rfl|(simp only[firstArgMember];rfl)) ?_)
 show ng ?_ (by size_fits)
 dsimp only[raiseNew]
 show J (wpAny_handled ?_)
 rwa[show A.in1.handled=N from j]
 show J (aD (wpAny_throw ?_))
 show J (qQ (T:= "StopIteration") (b:=U) ⟨_,dQ _ rfl,rfl⟩ isSubtype_stop ?_)
 show aD (q _ (((iu ..).extBut.push _).push _))
theorem N5(t:A.handled=N)(k:s.heap.IsKeyIter c d i b.length m)(l:s.heap.get? d=W (eb b m))
(u:∀e,b[i]?=aa e->∀h,h.IsKeyIter c d (i+1) b.length m->gp c s.heap h->a (aa e.key) {s with heap:=h})
(v:b[i]?=ae->∀h,tw c s.heap h->a ae {s with heap:=h}):aj (ar pw w) A (gk (ao c)) a E s:=by
 have j:=k.typeIs
 obtain⟨o,p,x,n⟩:=k
 show ai (qW (ma (name:=a0 "__next__") j DT
  (gE DT j PySem.F.entry_dict_keyiterator_next ?_ (PySem.F.args_dict_keyiterator_next_1 _))))
 show ai (aD (ai (ai (ai (CN j (aD (ai (yO p n (ni rfl ?_)))))))))
 show ai (aD (ai (qR l rfl (ni (ef ne_self) (ai (aD (ai (yN l rfl (ni (ef ne_self) (aD ?_))))))))))
 dsimp only
 rwa[((aL (nE.mpr (je i))).trans y8:(if(i:Int)<0 then ae else b.toArray[(i:Int).toNat]?)=b[i]?)]
 generalize r:b[i]?=q;induction q with
 |none=>show ai (ai (CN j (aD (xw t p n (jh rfl) (v r)))))
 |some e=>
  have f:(s.heap.update c (Obj.mapFields (·.setIfInBounds 1 (c6 ((i:Int)+1))))).IsKeyIter c d (i+1) b.length m :=
   ⟨_,oz _ p (JT (zI n _)),(JU ..).trans x,(zI n _).trans rfl⟩
  show ai (ai (CN j (aD (ai (IH j (ai (yG p n (jh rfl) ?_)))))))
  show ai (cU (ai (IH (s:={s with heap:=s.heap.update c (Obj.mapFields (·.setIfInBounds 1 (c6 ((i:Int)+1))))}) f.typeIs (aD (aD ⟨_,rfl,aD (u e r _ f (iu ..))⟩)))))
theorem RE.vals{e:List fg}{c:List (D×D)}{h:b0}(r:RE w g h e c):RL w g h (e.map (·.val)) (c.map (·.2)):=by
 induction c generalizing e with
 |nil=>rwa[show e=[]from r];rfl
 |cons d f i=>obtain⟨k,v,j,rfl,a,b,r⟩:=r;show x2 v _ ⟨rfl,b,i r⟩
theorem Be(d:∀b o,b≠a->s.heap.get? b=W o->c.get? b=W o)(f:s.heap.objs.size<=c.objs.size):Kept [a] s {s with heap:=c}:=⟨λb o h e=>d b o (λq=>h (bI.mpr q)) e,f,rfl,rfl⟩
theorem N6{f:a->c}{d:List b}{l:List a}(h:d.length=l.length):d[(l.map f).length]?=N:=by rwa[bN,<-h];show Dt (bG _)
theorem N7(e:DictAt w g h d b m a):(a.map f).length<=2^20:=by rwa[bN,<-e.re.length];show e.sz
theorem aaO{d:aR}{q:List fg}{m:Nat}{j:List (D×D)}(L:(d==jw)=ah)(n:DictAt w g s.heap d q m j):qz w "dict" d g s (· =j.map (·.1)):=by
 show⟨n.typeIs,λX e=>e▸N7 n,q.map (·.key),j.map (·.1),n.re.keys,λc A Q E hh G M N=>?_⟩
 have r:=G.keep _ _ n.at_
 show aaN L r (N _ _ _ rfl ⟨[c.heap.objs.size],[c.heap.objs.size,d],(λi h=>h.IsKeyIter c.heap.objs.size d i q.length m/\h.get? d=aa (eb q m)),.push _ _,?_,?_,λA' p=>⟨?_,?_,?_⟩,⟨⟨_,dQ _ rfl,rfl,rfl⟩,dF _ r⟩⟩)
 .intro a P
  rwa[bI.mp P]
  show⟨bG _,by show _<(c.heap.push _).objs.size;rwa[eP];show dP _⟩
 .intro b t
  rcases bB.mp t with rfl|t
  .show aY (a7 ..)
  .rwa [bI.mp t];show aW ⟨_,r,λh=>aF (KA h) (aQ rfl)⟩
 .rintro i h B ⟨U,V⟩ H
  show⟨U.at λo e=>H _ (a7 ..) o e,H d (bq _ (a7 ..)) _ V⟩
 .intro i g' W dd Y Z hd l rl I hz u
  show aV (rl.get hd) λv x rv=>?_
  rw[dy]at x
  show bR (ej.mp x) λe J y=>?_;clear x;obtain rfl:=y
  show N5 p l.1 l.2 (λe' k B z f=>?_) λhn=>nn (hn.symm.trans J)
  show iw (aH (J.symm.trans k)) ?_
  have K:=Be (a:=c.heap.objs.size) f.extBut (bC f.1.symm)
  show u _ _ (rv.ext K.step.ext hz) ⟨z,f.extBut _ _ (eU (dt r):d≠c.heap.objs.size) l.2⟩ K
 .intro W Y Z l u
  show j5 (N5 p l.1 l.2 (λe' k=>nn ((N6 n.re.length).symm.trans k)) λX B hx f=>u _ (Be hx f))
def qA(h:b0)(c d:aR)(i n e:Nat):Prop:=∃b f k v,h.get? c=W {cls:= aZ "dict_itemiterator",dict:=N,data:= dU #[b,f,M d,bL i 0,bL n 0,bL e 0,k,v],slots:=#[]}/\(b= aN\/∃a:aR,b=c6 a)
theorem qA.typeIs(h:qA s.heap a d i n b):s.TypeIs (M a) "dict_itemiterator" :=wB h λz z z z h z=>⟨_,h,rfl⟩
theorem aaP(h:b (s.heap.get? a) s):V (Z pw w) A (loadIfAlive a) b E s:=λc p d=>by
 show zR _ c (.loadIfAlive a .pure) _ _ p s
 rwa[Sem.wp_loadIfAlive];show h
theorem aaQ(N:qA s.heap f d i n h)(P:∀L,qA L f d i n h->L.get? s.heap.objs.size=aa (cP #[k,v] 0)->L.objs.size=s.heap.objs.size+1->(∀b o,b≠f->s.heap.get? b=aa o->L.get? b=aa o)->c (ao s.heap.objs.size) {s with heap:=L}):
 aj (ar pw w) A (Rk (ao f) 6 k v) c E s:=by
 show wB N λW f1 x y U hf=>?_
 have M:=dt U
 show ai (yH ?_)
 have l:(s.heap.push (cP #[k,v] 0)).get? f=aa {cls:= aZ "dict_itemiterator",dict:=ae,data:= dU #[W,f1,ao d,bL i 0,bL n 0,bL h 0,x,y],slots:=#[]}:=dF _ U
 have V:(s.heap.push (cP #[k,v] 0)).get? s.heap.objs.size=aa (cP #[k,v] 0):=dQ _ rfl
 have p:∀b o,s.heap.get? b=aa o->(s.heap.push (cP #[k,v] 0)).get? b=aa o:=λb o e=>dF _ e
 show aj _ _ (Rl (ao f)>>=_) _ _ ({s with heap:=s.heap.push (cP #[k,v] 0)}:aA)
 have u:aj (ar pw w) A (do
  let ao a:=(ao s.heap.objs.size)|unsupported "internal:owned-tuple"
  let p:=[<-field (ao f) 6,<-field (ao f) (6+1)]
  pJ (ao f) 6 k;pJ (ao f) (6+1) v
  pJ (ao f) 0 (c6 a);pJ (ao f) 1 (eh ah)
  letGo p [ao s.heap.objs.size]
  return (ao s.heap.objs.size)) c E ({s with heap:=s.heap.push (cP #[k,v] 0)}:aA):=by
  show ai (jy l rfl (x:=x) rfl ?_)
  show ai (jy l rfl (x:=y) rfl ?_)
  show ai (kq l (jh rfl) λz m j=>?_)
  show ai (kq m (jh rfl) λY I q=>?_)
  show ai (kq I (jh rfl) λZ J r=>?_)
  show ai (kq J (jh rfl) λB K t=>?_)
  have k6:∀b,b≠f->B.get? b=(s.heap.push (cP #[k,v] 0)).get? b:=λb H=>(t.2 b H).trans ((r.2 b H).trans ((q.2 b H).trans (j.2 b H)))
  show ai (yq (aD (P B (x4 _ _ _ _ ⟨K,aW ⟨_,rfl⟩⟩) ((k6 _ (kv M:s.heap.objs.size≠f)).trans V) ?_ λb o H e=>(k6 b H).trans (p b o e))))
  rwa[t.1,r.1,q.1,j.1];show(eP .. :(s.heap.push (cP #[k,v] 0)).objs.size=s.heap.objs.size+1)
 show ai ?_
 show ai (jy l rfl (x:=W) rfl ?_)
 clear U;rcases hf with rfl|⟨a,rfl⟩
 .show aD u
 .show ai (aaP ?_)
  by_cases GS:((s.heap.push (cP #[k,v] 0)).get? (a:Int).toNat).isNone=af
  .show aj _ _ (if((s.heap.push (cP #[k,v] 0)).get? (a:Int).toNat).isNone=af then _ else _) _ _ _
   rwa[aJ GS]
   show aD u
  .show aj _ _ (if((s.heap.push (cP #[k,v] 0)).get? (a:Int).toNat).isNone=af then _ else _) _ _ _
   rwa[aL GS]
   show ai (jy l rfl (x:=f1) rfl ?_)
   show wpAny_ite_split (λg=>?_) λg=>?_
   .show ai (kq l (jh rfl) λz m j=>aD (aD (P z (x4 _ _ _ _ ⟨m,aW ⟨a,rfl⟩⟩) ((j.2 _ (kv M:s.heap.objs.size≠f)).trans V) (by rwa[j.1];show(eP .. :(s.heap.push (cP #[k,v] 0)).objs.size=s.heap.objs.size+1)) λb o H e=>(j.2 b H).trans (p b o e))))
   .show aD (aD (P _ (x4 _ _ _ _ ⟨l,aW ⟨a,rfl⟩⟩) V (eP .. :(s.heap.push (cP #[k,v] 0)).objs.size=s.heap.objs.size+1) λb o g e=>p b o e))
theorem N8(I:A.handled=N)(r:qA s.heap f d i c.length m)(t:s.heap.get? d=W (eb c m))
(J:∀e,c[i]?=aa e->∀n,qA n f d (i+1) c.length m->n.get? s.heap.objs.size=aa (cP #[e.key,e.val] 0)->n.objs.size=s.heap.objs.size+1->(∀b o,b≠f->s.heap.get? b=aa o->n.get? b=aa o)->a (aa (ao s.heap.objs.size)) {s with heap:=n})
(K:c[i]?=ae->∀n,tw f s.heap n->a ae {s with heap:=n}):aj (ar pw w) A (gk (ao f)) a E s:=by
 have p:=r.typeIs
 show wB r λL M x y v N=>?_
 show ai (qW (ma (name:=a0 "__next__") p DU
  (gE DU p PySem.F.entry_dict_itemiterator_next ?_ (PySem.F.args_dict_itemiterator_next_1 _))))
 show ai (aD (ai (ai (ai (CO p (aD (ai (yO v rfl (ni rfl ?_)))))))))
 show ai (aD (ai (qR t rfl (ni (ef ne_self) (ai (aD (ai (yN t rfl (ni (ef ne_self) (aD ?_))))))))))
 dsimp only
 rwa[((aL (nE.mpr (je i))).trans y8:(if(i:Int)<0 then ae else c.toArray[(i:Int).toNat]?)=c[i]?)]
 generalize B:c[i]?=z;induction z with
 |none=>show ai (ai (CO p (aD (xw I v rfl (jh rfl) (K B)))))
 |some e=>
  show ai (ai (CO p (aD (ai (CP p (ai (kq v (jh rfl) λj h k=>?_)))))))
  have h:qA j f d (i+1) c.length m:=x4 L M x y ⟨h,N⟩
  have l:wm {s with heap:=j} (ao f) "dict_itemiterator" :=h.typeIs
  show ai (cU (ai (CP l (ai (CP l (aaQ (s:={s with heap:=j}) h λu P U V W=>aD ⟨_,rfl,aD ?_⟩))))))
  have q:=J e B u P
  rw[<-k.1]at q
  show q U V λb o H e=>W b o H ((k.2 b H).trans e)
theorem RL.aaR(r:RL w g h (a++b) (x++y))(e:a.length=x.length):RL w g h a x/\RL w g h b y:=by
 induction x generalizing a with
 |nil=>revert r;show oI (List.eq_nil_of_length_eq_zero e) λr=>?_;show⟨.nil,r⟩
 |cons d x c=>
  induction a using bH with
  |nil=>show Eu e
  |cons v a=>
   show eX (r) λi j q f r=>?_
   cases q
   have:=c r (gs e)
   show⟨.cons f this.1,this.2⟩
theorem RL.N9{l:List c}{m:List e}{f:c->K}{k:e->D}{i:Nat}{a:c}{b:e}(r:RL w g h (l.map f) (m.map k))(n:l[i]?=W a)(o:m[i]?=W b):R w g h (f a) (k b):=by
 show bR (r.get (d:=k b) ![dy,o]) λv j p=>?_
 rw[dy,n]at j
 show L j▸p
theorem aaS{x d:aR}{l:List fg}{m:Nat}{f:List (D×D)}(j:DictAt w g s.heap d l m f)(z:s.heap.IsItemsView x d):qz w "dict_items" x g s (· =f.map λp=> aw [p.1,p.2]):=by
 show⟨z.typeIs,λX e=>e▸N7 j,l.map (·.key)++l.map (·.val),f.map (·.1)++f.map (·.2),j.re.keys.append j.re.vals,λc A Q E hh G low hQ=>?_⟩
 have r:=G.keep _ _ j.at_
 show eA (id z) λov B hcv H=>?_
 show CM (uN G z.typeIs) Kh (gE Kh (uN G z.typeIs) PySem.F.entry_dict_items_iter ?_ (PySem.F.args_dict_items_iter_1 _))
 show ai (aD (ai (ai (jy (G.keep _ _ B) H (x:= ao d) rfl (aD (ai (ai (qR r rfl (ai (yN r rfl ?_))))))))))
 show ng (aD ⟨_,rfl, "dict_itemiterator",_,⟨_,dQ _ rfl,rfl⟩,DU.lookup,?_⟩)
  (by show 8<=_;rwa[sW];decide)
 show hQ _ _ _ rfl ⟨[c.heap.objs.size],[c.heap.objs.size,d],(λi h=>qA h c.heap.objs.size d i l.length m/\h.get? d=aa (eb l m)),.push _ _,?_,?_,λA' t=>⟨?_,?_,?_⟩,⟨(x4 aN (eh ah) aN aN ⟨?_,aY rfl⟩),dF _ r⟩⟩
 .intro a ha
  rwa[bI.mp ha]
  show⟨bG _,by show _<(c.heap.push _).objs.size;rwa[eP];show dP _⟩
 .intro b hb
  rcases bB.mp hb with rfl|hb
  .show aY (a7 ..)
  .rwa [bI.mp hb];show aW ⟨_,r,λh=>aF (KA h) (aQ rfl)⟩
 .rintro i h W ⟨⟨f0,f1,k,v,h1,hf⟩,h2⟩ u
  show⟨(x4 f0 f1 k v ⟨u _ (a7 ..) _ h1,hf⟩),u d (bq _ (a7 ..)) _ h2⟩
 .intro i g' s' dd Q' E' I n rl y Y J
  rw[dy]at I
  show bR (ej.mp I) λp K L=>?_;clear I;obtain rfl:=L
  obtain⟨ra,rb⟩:=rl.aaR (![bN,bN,j.re.length])
  show N8 t n.1 n.2 (λe Z W M hN N u=>?_) λhn=>nn (hn.symm.trans (dn (j.re.length▸(cD.mp K).1)))
  have P:=Be (a:=c.heap.objs.size) u (N▸gW _)
  show J _ _ (.tup hN (λq=>cq _ (y _ q)) (jh rfl) (.cons ((ra.N9 Z K).ext P.step.ext Y) (.cons ((rb.N9 Z K).ext P.step.ext Y) .nil))) ⟨M,u _ _ (eU (dt r):d≠c.heap.objs.size) n.2⟩ P
 .intro s' Q' E' n J
  show j5 (N8 t n.1 n.2 (λe' U=>nn ((N6 j.re.length).symm.trans U)) λX W hx V=>J _ (Be hx V))
 .have:=dQ c.heap (o:={cls:= aZ "dict_itemiterator",data:= dU #[aN,eh ah,ao d,bL 0 0,bL l.length 0,bL m 0,aN,aN]}) rfl
  show this
end
set_option backward.match.sparseCases true
section
variable(kf:az->Nat)
noncomputable def KV(a:Array lE)(i:Nat):Nat:=match a[i]? with
 |some p=>kf p.1
 |none=>0
def hO(a:Array lE)(k:Nat):Prop:=∀i j,i<=j->j<k->KV kf a i<=KV kf a j
def Bf(a:Array lE)(k:Nat):Prop:=∀i j,i<=j->j<k->KV kf a j<=KV kf a i
variable{kf}
theorem Bg(h:a[i]?=b[j]?):KV kf a i=KV kf b j:=by unfold KV;rwa[h]
theorem Oa(b:n<=a.size)(k:Nat)(c:k<n):KV kf (vS a 0 n ((n-0) / 2)) k=KV kf a (n-1-k):=by
 have e:=getElem?_mirror_all (i:=0) b k
 rw[aJ ⟨cQ _,c⟩,iK]at e
 show Bg e
structure SB (kd:rm) (ck:Array lE) (st:fj):Prop where
 perm:(bZ st).Perm ck
 kind:kindOf st=kd
 failed:zm st=ae
 pend:vT st=#[]
theorem SB.size{st:fj}(h:SB kd a st):(bZ st).size=a.size:=h.perm.size_eq
theorem SB.put{c:fj}(h:SB kd a c)(d:b.Perm (bZ c)):SB kd a (setArr c b):=⟨d.trans h.perm,h.kind,h.failed,h.pend⟩
noncomputable def Diff(kf:K->Nat)(a:Array lE):Prop:=(a.toList.map λp=>kf p.1).Nodup
theorem SB.ne{b:fj}(h:SB kd a b)(g:Diff kf a)(l:i<a.size)(m:j<a.size)(f:i≠j):KV kf (bZ b) i≠KV kf (bZ b) j:=by
 have k:=(zH.mp h.perm).map (λp=>kf p.1)
 have n:=h.size
 intro e
 have c:i<(bZ b).size:=ey ‹_› (gq ‹_›)
 have d:j<(bZ b).size:=by lia
 unfold KV at e
 rw[getElem?_pos _ i c,getElem?_pos _ j d]at e
 have:=(Jk (i:=i) (j:=j) (h₀:=by simpa using c) (h₁:=by simpa using d) ((k.nodup_iff).mpr g:((bZ b).toList.map λp=>kf p.1).Nodup)).mp (by simpa using e)
 show f this
section
variable{M:Model}{A:bK}{E:az->aA->Prop}{s:aA}{ck:Array lE}{kd:rm}
def n2(kf:K->Nat)(M:Model)(A:bK)(E:K->H->Prop)(s:H)(ck:Array lE)(kd:rm):Prop :=
 ∀(a:fj)(i j:Nat)(Q:Option Bool->fj->Prop),SB kd ck a->i<ck.size->j<ck.size->Q (W (I (KV kf (bZ a) i<KV kf (bZ a) j))) a->jb M A E s (ltAt' i j) Q a
theorem n2.use(c:n2 kf M A E s ck kd){b:fj}(d:SB kd ck b)(e:i<ck.size)(g:j<ck.size)(t:KV kf (bZ b) i<KV kf (bZ b) j->a (W U) b)(f:KV kf (bZ b) j<=KV kf (bZ b) i->a (W Y) b):jb M A E s (ltAt' i j) a b:=by
 show c _ _ _ _ d e g ?_
 by_cases h:KV kf (bZ b) i<KV kf (bZ b) j
 .rwa [dA h];show t h
 .rwa [ef h];show f (i8.mp h)
theorem mid(h:l<r)(c:x+r<=k+l):l<=(l+r) / 2/\(l+r) / 2<r/\x+1+(l+r) / 2<=k+l/\x+1+r<=k+((l+r) / 2+1):=by
 have a:l<=(l+r) / 2:=(IP (dm _)).mpr (by rwa[vE];show fh (eL h) l)
 have b:(l+r) / 2<r:=(Nat.div_lt_iff_lt_mul (dm _)).mpr (by rwa[vE];show CW h r)
 show⟨a,b,?_,?_⟩
 .rwa [gG];show P (fh b x) c
 .rwa [gG];show ek (P c (fh a k))
theorem GU{R:Nat->Nat->Prop}(g:∀a,R a a)(k:∀{a b c},R a b->R b c->R a c){f:Nat->Nat}(l:1<=x)(e:∀i j,i<=j->j<x->R (f i) (f j))(m:R (f (x-1)) (f x))(i j:Nat)(d:i<=j)(n:j<x+1):R (f i) (f j):=by
 rcases vG (iL n)with h|rfl
 .show e i j d h
 .rcases vG d with h|rfl
  .show k (e i (j-1) (yX h) (s7 l s8)) m
  .show g _
theorem Ob{R:Nat->Nat->Prop}(c:∀a,R a a){f:Nat->Nat}(i j:Nat)(b:i<=j)(d:j<1):R (f i) (f j):=by
 obtain rfl:=Nat.lt_one_iff.mp d
 obtain rfl:=Nat.le_zero.mp b
 show c _
noncomputable def Cut(f:Nat->Nat)(k l r:Nat):Prop:=(∀i,i<l->f i<=f k)/\∀i,r<=i->i<k->f k<f i
theorem aaT(z:n2 kf M A E s ck kd){g:fj}{k:Nat}(w:k<ck.size)(u:SB kd ck g)(q:hO kf (bZ g) k){f:Nat->Option Bool×Nat×Nat->StateT fj eT (ForInStep (Option Bool×Nat×Nat))}
(B:f=λZ c=>if c.2.1>=c.2.2 then bx (tA (ae,c.2.1,c.2.2))else ltAt' (0+k) (0+(c.2.1+c.2.2) / 2)>>=λx=>match x with
  |some o=>if o=af then bx (iR (ae,c.2.1,(c.2.1+c.2.2) / 2))else bx (iR (ae,(c.2.1+c.2.2) / 2+1,c.2.2))
  |_=>bx (tA (aa ah,c.2.1,c.2.2)))
{Q:Option Bool×Nat×Nat->fj->Prop}(h:∀l,l<=k->Cut (KV kf (bZ g)) k l l->Q (ae,l,l) g):jb M A E s (lJ [0:k] (ae,0,k) f) Q g:=by
 subst B
 show vU (tn (I:=λx c d=>d=g/\∃l r,c=(ae,l,r)/\l<=r/\r<=k/\x+r<=k+l/\Cut (KV kf (bZ g)) k l r) (Q:=λc d=>d=g/\∃l,c=(ae,l,l)/\l<=k/\Cut (KV kf (bZ g)) k l l) ?_ ?_
  ⟨rfl,0,k,rfl,cQ _,bG _,bC (iK _),λZ h=>aF h (i7 _),λZ h H=>aF H (i8.mpr h)⟩) ?_
 .clear h;rintro x c d Z Z ⟨rfl,l,r,rfl,n,j,t,p⟩
  rcases vG n with y|rfl
  .have m:=mid y t
   show(aI (λe=>jb M A E s e _ d) (aL (Nat.not_le.mpr y))).mpr ?_
   dsimp only
   rwa[iK,iK]
   show eV (z.use u w (e9 (bg m.2.1 j) w) (λv=>?_) λv=>?_)
   .show gX ⟨rfl,l,_,rfl,m.1,aC (eL m.2.1) j,m.2.2.1,p.1,λi a b=>bg v (q _ _ a b)⟩
   .show gX ⟨rfl,_,r,rfl,m.2.1,j,m.2.2.2,λi a=>aC (q i _ (iL a) (bg m.2.1 j)) v,p.2⟩
  .show (aI (λe=>jb M A E s e _ d) (aJ (bG l))).mpr ?_
   show gX ⟨rfl,l,rfl,j,p⟩
 .clear u q h;rintro c d ⟨rfl,l,r,rfl,n,j,t,p⟩
  have J:=ku n (C0 t);clear t n;obtain rfl:=J
  show⟨rfl,l,rfl,j,p⟩
 .clear u q;rintro c d ⟨rfl,l,rfl,n,j⟩
  show h l n j
theorem aaU(u:k<c.size)(f:l<=k)(m:hO kf c k)(t:Cut (KV kf c) k l l):hO kf (bubble c k (k-l)) (k+1):=by
 have e:=getElem?_bubble u (k-l) (oj ..)
 rw[Nat.sub_sub_self f]at e
 have g:∀j,j<l->KV kf (bubble c k (k-l)) j=KV kf c j:=λj h=>Bg ((e j).trans ((aL (eU h)).trans (aL λq=>Nat.lt_asymm h q.1)))
 have n:KV kf (bubble c k (k-l)) l=KV kf c k:=Bg ((e l).trans (aJ rfl))
 have o:∀j,l<j->j<=k->KV kf (bubble c k (k-l)) j=KV kf c (j-1):=λj h v=>Bg ((e j).trans ((aL (kv h)).trans (aJ ⟨h,v⟩)))
 intro i j d r
 rcases IQ j l with a|rfl|a
 .rwa [g j a,g i (bY d a)]
  show m _ _ d (bg a f)
 .rwa [n]
  clear f o;rcases vG d with b|rfl
  .rwa [g i b];show t.1 _ b
  .rwa [n];show bG _
 .have p:j-1<k:=bg (s7 (yW a) s8) (iL r)
  rwa[o j a (iL r)]
  clear f;rcases IQ i l with b|rfl|b
  .rwa [g i b];show m _ _ (P (eL b) (yX a)) p
  .rwa [n];show eL (t.2 _ (yX a) p)
  .rwa [o i b (P d (iL r))];show m _ _ (Nat.sub_le_sub_right d 1) p
theorem aaV(o:n2 kf M A E s ck kd){f:fj}{Q:Bool->fj->Prop}(p:n<=ck.size)(g:a<=n)(q:1<=a)(r:SB kd ck f)(t:hO kf (bZ f) a)(h:∀b,SB kd ck b->hO kf (bZ b) n->Q U b):jb M A E s (binarySort' 0 n a) Q f:=by
 rwa[binarySort'_eq,Nat.max_eq_left q]
 show eV (vU (tn (I:=λk c b=>c=(N,())/\SB kd ck b/\hO kf (bZ b) k) (Q:=λc b=>c=(N,())/\SB kd ck b/\hO kf (bZ b) n) ?_ ?_ ⟨rfl,r,t⟩) ?_)
 .rintro k c b u i ⟨rfl,d,e⟩
  have m:=bg i p
  show eV (aaT o m d e rfl λl v j=>?_)
  show jb _ _ _ _ (do moveDown' (0+k) (0+l);bx (iR (N,()))) _ _
  rwa[iK,iK,moveDown'_eq]
  show eV (zo (gX ⟨rfl,d.put (bubble_perm _ _ _),aaU (d.size▸m) v e j⟩))
 .rintro c b ⟨j,d,e⟩
  show⟨j,d,yY g▸e⟩
 .rintro c b ⟨rfl,d,e⟩
  show gX (h b d e)
theorem Oc(q:n2 kf M A E s ck kd){e:fj}(r:m<=ck.size)(t:1<=a)(g:a<=m)(o:SB kd ck e)(k:hO kf (bZ e) a)
(h:∀n,a<=n->n<=m->hO kf (bZ e) n->(n=m\/KV kf (bZ e) n<KV kf (bZ e) (n-1))->b (ae,n) e):jb M A E s (ascLoop a m) b e:=by
 show tn (I:=λx c f=>f=e/\c=(ae,x)/\hO kf (bZ e) x) ?_ ?_ ⟨rfl,rfl,k⟩
 .clear k;rintro x c f i j ⟨rfl,rfl,d⟩
  have p:=bg j r
  show eV (q.use o p (bY (oj ..) p) (λl=>gX (h x i (eL j) d (aW l))) λl=>gX ⟨rfl,rfl,GU bG aC (aC t i) d l⟩)
 .clear o k;rintro c f ⟨rfl,rfl,d⟩
  rw[yY g]at d |-
  show h m g (bG _) d (aY rfl)
theorem aaW{a:fj}{Q:PUnit->fj->Prop}(h:Q ⟨⟩ (setArr a (vS (bZ a) 0 n ((n-0) / 2)))):jb M A E s (reverseSlice' 0 n) Q a:=by
 rwa[reverseSlice'_eq]
 show zo h
theorem aaX(q:n2 kf M A E s ck kd){b:fj}(l:m<=ck.size)(g:1<=k)(n:k<=m)(o:SB kd ck b)(r:Bf kf (bZ b) k)
(h:∀k c,SB kd ck c->1<=k->k<=m->hO kf (bZ c) k->a (aa k) c):jb M A E s (tail3 k m) a b:=by
 have d:k<=(bZ b).size:=o.size▸aC n l
 have e:SB kd ck (setArr b (vS (bZ b) 0 k ((k-0) / 2))):=o.put (mirror_perm _ _ _ _)
 show eV (aaW (eV (Oc q l g n e ?_ λj t u v z=>gX (h j _ e (aC g t) u v))))
 intro i j f p
 show KV kf (vS (bZ b) 0 k ((k-0) / 2)) i<=KV kf (vS (bZ b) 0 k ((k-0) / 2)) j
 rwa[Oa d _ (bY f p),Oa d _ p]
 show r _ _ (Nat.sub_le_sub_left f _) (bY (oj ..) (s7 g s8))
theorem aaY(r:n2 kf M A E s ck kd)(w:Diff kf ck){f:fj}{Q:Option Nat->fj->Prop}(u:m<=ck.size)(i:n+1<=m)(j:SB kd ck f)(p:Bf kf (bZ f) (n+1))
(h:∀k d,SB kd ck d->1<=k->k<=m->hO kf (bZ d) k->Q (aa k) d):jb M A E s (descPart n m) Q f:=by
 show eV (wpS_lift (iJ ⟨rfl,eV (vU (tn (I:=λx c d=>d=f/\c=(ae,x,0)/\Bf kf (bZ f) x) (Q:=λc d=>d=f/\∃k,c=(ae,k,0)/\n+1<=k/\k<=m/\Bf kf (bZ f) k) ?_ ?_ ⟨rfl,rfl,p⟩) ?_)⟩))
 .clear p;rintro x c d l o ⟨rfl,rfl,e⟩
  have g:=bg o u
  have v:=aC (ek (cQ n)) l
  have q:=s7 v s8
  show eV (r.use j g (e9 q g) (λt=>gX ⟨rfl,rfl,GU (R:=λa b=>b<=a) bG (λa b=>aC b a) v e (eL t)⟩) λt=>
   eV (r.use j (e9 q g) g (λZ=>gX ⟨rfl,x,rfl,l,eL o,e⟩) λy=>aF (ku y t) (j.ne w g (e9 q g) (kv q))))
 .clear j p;rintro c d ⟨rfl,rfl,e⟩
  rw[yY i]at e |-
  show⟨rfl,m,rfl,i,bG _,e⟩
 .clear p;rintro c d ⟨rfl,k,rfl,z,B,H⟩
  show aaX r u (aC (ek (cQ n)) z) B j H h
theorem aaZ(v:n2 kf M A E s ck kd)(w:Diff kf ck){r:fj}{Q:Option Nat->fj->Prop}(t:m<=ck.size)(x:1<=m)(l:SB kd ck r)
(h:∀k i,SB kd ck i->1<=k->k<=m->hO kf (bZ i) k->Q (aa k) i):jb M A E s (countRun' 0 m) Q r:=by
 rwa[countRun0_eq]
 show eV (Oc v t (bG 1) x l (Ob bG) λn d e f o=>?_)
 by_cases c:n=m
 .rwa [aJ (bX.mpr c)]
  show gX (h n r l d e f)
 .rwa [aL λq=>c (bX.mp q)]
  have j:=o.resolve_left c
  have u:=oo e c
  by_cases g:n>1
  .rwa [aJ g]
   have p:=bg x t
   have y:n-1<n:=s7 d s8
   have q:=bg (e9 y u) t
   show eV (v.use l p q (λZ=>gX (h n r l d e f)) λz=>aF (ku (f 0 (n-1) (cQ _) y) z) (l.ne w p q (eU (Nat.sub_pos_of_lt g))))
  .rwa [aL g]
   clear o f e c;revert j u;show oI (ku (i8.mp g) d) λj u=>?_
   show aaY v w t u l (GU (R:=λa b=>b<=a) bG (λa b=>aC b a) (bG 1) (Ob (R:=λa b=>b<=a) bG) (eL j)) h
def Od(kf:K->Nat)(ck:Array lE)(a:fj):Prop:=(bZ a).Perm ck/\zm a=N/\vT a=#[(0,ck.size,0)]/\hO kf (bZ a) ck.size
def Oe(kf:K->Nat)(kd:rm)(ck:Array lE)(x:Nat)(c:Option Unit×Nat)(a:fj):Prop:=(x=0/\c=(N,0)/\SB kd ck a)\/(1<=x/\c=(N,ck.size)/\Od kf ck a)
theorem Of{a:fj}(h:vT a=#[]):(vT a).back? =N:=![h]
theorem aa0(y:n2 kf M A E s ck kd)(H:Diff kf ck){st:fj}{Q:Unit->fj->Prop}(z:SB kd ck st)(J:2<=ck.size)(q:ck.size<64)
(h:∀a,(bZ a).Perm ck->zm a=ae->hO kf (bZ a) ck.size->Q () a):jb M A E s sortRuns' Q st:=by
 rwa[sortRuns'_eq]
 have p:1<=ck.size:=mh J
 have r:minRun' ck.size ck.size 0=ck.size:=by
  have:=(minRun'_succ (ck.size-1) ck.size 0).trans (aJ q)
  rwa[Nat.sub_add_cancel p]at this
 show eV (tq ?_)
 rwa[z.size]
 dsimp only
 rwa[r]
 show eV (vU (tn (I:=Oe kf kd ck) (Q:=λc a=>c=(ae,ck.size)/\Od kf ck a) ?_ ?_ (aY ⟨rfl,rfl,z⟩)) ?_)
 .rintro x c a Z B (⟨rfl,rfl,t⟩|⟨hx1,rfl,u⟩)
  .skip
   show(aI (λe=>jb M A E s e _ a) (aL (Nat.not_le.mpr p))).mpr ?_
   have i:∀d n,n=ck.size->SB kd ck d->hO kf (bZ d) n->Oe kf kd ck (0+1) (ae,0+n) (setPending d ((vT d).push (0,n,0))):=by
    rintro d Z rfl f g
    show aW ⟨bG _,aI _ (iK _),f.perm,f.failed,aI (·.push (0,ck.size,0)) f.pend,g⟩
   show eV (aaZ y H (bG _) p t λm d f l j g=>?_)
   dsimp only
   by_cases k:m<ck.size
   .rwa [aJ k]
    show eV (wpS_lift (iJ ⟨rfl,eV (aaV y (vD ..) (Nat.le_min.mpr ⟨j,j⟩) l f g λv o w=>?_)⟩))
    show jb _ _ _ _ (get>>=_) _ _
    show eV (tq ?_)
    rwa[Of o.pend]
    show eV (zo (gX (i v _ (Nat.min_self _) o w)))
   .rwa [aL k]
    clear l;obtain rfl:=ku j (i8.mp k)
    show eV (tq ?_)
    rwa[Of f.pend]
    show eV (zo (gX (i d _ rfl f g)))
  .show (aI (λe=>jb M A E s e _ a) (aJ (bG ck.size))).mpr ?_
   show gX ⟨rfl,u⟩
 .rintro c a (⟨B,Z,Z⟩|⟨Z,hc,u⟩)
  .show aF B (kv (yY (cQ _)▸p))
  .show ⟨hc,u⟩
 .rintro c a ⟨rfl,hp,hf,hq,hs⟩
  show eV (vU (tn (I:=λZ c b=>b=a/\c=(ae,())) (Q:=λc b=>b=a/\c=(ae,())) ?_ (λZ Z K=>K) ⟨rfl,rfl⟩) ?_)
  .clear hp hs hf;rintro x c b Z Z ⟨rfl,rfl⟩
   show eV (tq ?_)
   rwa[aJ (by rwa[hq];show bG 1)]
   show gX ⟨rfl,rfl⟩
  .clear hq;rintro c b ⟨rfl,rfl⟩
   show gX (h _ hp hf hs)
end
end
set_option backward.match.sparseCases false
theorem Og{a b:bu}(h:a.cps.toList=b.cps.toList):a=b:=by
 induction a;induction b;simp only[Kx];show p5.mp h
theorem cI(h:cy (aq i) y=W o):∃j,y= aq j/\tH i j=o:=by induction y using bJ<;>first|show nn h|show⟨_,rfl,L h⟩
theorem cS(h:cy (bl i) y=W o):∃j,y= bl j/\(if i=j then lF else if i.cps.toList<j.cps.toList then cY else .gt)=o:=by induction y using bJ<;>first|show nn h|show⟨_,rfl,L h⟩
theorem cT(h:cy (aw i) y=W o):∃j,y= aw j/\fZ i j=W o:=by induction y using bJ<;>first|show nn h|show⟨_,rfl,h⟩
theorem D.xx{P:D->Prop}{PL:List D->Prop}(c:∀i,P (aq i))(e:∀s,P (bl s))(f:∀l,PL l->P (aw l))(rest:∀d,(∀y,cy d y=N)->P d)(g:PL [])(b:∀d l,P d->PL l->PL (d::l)):(∀d,P d)/\∀l,PL l :=
 have a:=D.ind (P:=P) (PL:=PL) (PE:=λz=>True) (PA:=λz=>True) (rest _ λz=>rfl) (λz=>rest _ λz=>rfl) c e f (λz z=>rest _ λz=>rfl) (λz z=>rest _ λz=>rfl) (λz z z=>rest _ λz=>rfl) (λz=>rest _ λz=>rfl) (λz=>rest _ λz=>rfl)
  g b trivial (λz z z z z z=>trivial) trivial λz z z z z=>trivial
 ⟨a.1,a.2.1⟩
theorem nc{P:Prop}(r:∀y,cy d y=N)(h:cy d y=W o):P:=nn ((r y).symm.trans h)
theorem cL(h:fZ (a::x) (b::y)=W o):(a=b/\fZ x y=W o)\/(a≠b/\cy a b=W o):=by
 by_cases e:a=b
 .show aY ⟨e,(aJ e).symm.trans (h:(if a=b then fZ x y else cy a b)=W o)⟩
 .show aW ⟨e,(aL e).symm.trans (h:(if a=b then fZ x y else cy a b)=W o)⟩
theorem aa1:(∀a b:D,cy a b=W lF->a=b)/\∀a b:List D,fZ a b=W lF->a=b:=by
 show D.xx (λi b h=>?_) (λi b h=>?_) (λl f b h=>?_) (λd r b h=>nc r h) (λb h=>?_) λd l i j b h=>?_
 .show bR (cI h) λj c q=>?_;clear h;obtain rfl:=c;have h:=q;rwa[show i=j from Rm.mp h]
 .show bR (cS h) λj c q=>?_;clear h;obtain rfl:=c;have h:=q
  by_cases e:i=j
  .rwa [e]
  .rw [aL e]at h;split at h<;>cases h
 .show bR (cT h) λj c q=>?_;clear h;obtain rfl:=c;have h:=q;rwa[f _ h]
 .induction b using bH with
  |nil=>rfl
  |cons=>show oy (L h)
 .induction b using bH with
  |nil=>show oy (L h)
  |cons e b=>
   rcases cL h with⟨e,h⟩|⟨e,h⟩
   .rwa [e,j _ h]
   .show aF (i _ h) e
theorem Oh:(∀(a:D)(o:Ordering),cy a a=W o->o= lF)/\∀(a:List D)(o:Ordering),fZ a a=W o->o= lF:=by
 show D.xx (λi o h=>?_) (λi o h=>?_) (λl b o h=>b o h) (λd r o h=>nc r h) (λo h=>(L h).symm) λd l i j o h=>?_
 .rwa [<-L h];show Std.ReflCmp.compare_self
 .rwa [<-L h];show aJ rfl
 .rcases cL h with⟨z,h⟩|⟨e,z⟩
  .show j o h
  .show aF rfl e
theorem aa2:(∀(a b:D)(o:Ordering),cy a b=W o->cy b a=W o.swap)/\∀(a b:List D)(o:Ordering),fZ a b=W o->fZ b a=W o.swap:=by
 show D.xx (λi b o h=>?_) (λi b o h=>?_) (λl f b o h=>?_) (λd r b o h=>nc r h) (λb o h=>?_) λd l i j b o h=>?_
 .show bR (cI h) λj c q=>?_;clear h;obtain rfl:=c;have h:=q
  show aI W (h▸Std.OrientedCmp.eq_swap)
 .show bR (cS h) λj c q=>?_;clear h;obtain rfl:=c;have h:=q
  show aI W ?_
  by_cases e:i=j
  .rw [aJ e]at h;rwa[aJ e.symm,<-h];rfl
  .rw [aL e]at h
   rwa[aL (kY e)]
   by_cases l:i.cps.toList<j.cps.toList
   .rw [aJ l]at h
    rwa[aL (λg=>rj _ (zb l g)),<-h];rfl
   .rw [aL l]at h
    rwa[aJ ((List.le_iff_lt_or_eq.mp (Du.mp l)).elim id λq=>aF (Og q).symm e:j.cps.toList<i.cps.toList),<-h];rfl
 .show bR (cT h) λj c q=>?_;clear h;obtain rfl:=c;have h:=q;show f _ _ h
 .induction b using bH<;>show aI W (L h▸rfl)
 .induction b using bH with
  |nil=>show aI W (L h▸rfl)
  |cons e b=>
   rcases cL h with⟨e,h⟩|⟨e,h⟩
   .show (aJ e.symm).trans (j _ _ h)
   .show (aL (kY e)).trans (i _ _ h)
theorem aa3:(∀(a b c:D),cy a b=W cY->cy b c=W cY->cy a c=W cY)/\∀(a b c:List D),fZ a b=W cY->fZ b c=W cY->fZ a c=W cY:=by
 show D.xx (λi b c h g=>?_) (λi b c h g=>?_) (λl s b c h g=>?_) (λd r b c h z=>nc r h) (λb c h g=>?_) λd l i j b c h g=>?_
 .show bR (cI h) λj m q=>?_;clear h;obtain rfl:=m;have h:=q;show bR (cI g) λk m n=>?_;clear g;obtain rfl:=m;have g:=n
  show aI W (oD.mpr (zB (oD.mp h) (oD.mp g)))
 .have p:∀{a b:bu},(if a=b then lF else if a.cps.toList<b.cps.toList then cY else .gt)= cY->a.cps.toList<b.cps.toList:=λ{a b} h=>by
   by_cases e:a=b
   .rw [aJ e]at h;cases h
   .rw [aL e]at h
    by_cases l:a.cps.toList<b.cps.toList
    .show l
    .rw [aL l]at h;cases h
  show bR (cS h) λj m q=>?_;clear h;obtain rfl:=m;have h:=q;show bR (cS g) λk m n=>?_;clear g;obtain rfl:=m;have g:=n
  have l:=zb (p h) (p g)
  show aI W ((aL λe=>by rw[e]at l;show rj _ l).trans (aJ l))
 .show bR (cT h) λj m q=>?_;clear h;obtain rfl:=m;have h:=q;show bR (cT g) λk m n=>?_;clear g;obtain rfl:=m;have g:=n;show s _ _ h g
 .induction b using bH with
  |nil=>show oy (L h)
  |cons=>induction c using bH with
   |nil=>show oy (L g)
   |cons=>rfl
 .induction b using bH with
  |nil=>show oy (L h)
  |cons e b=>induction c using bH with
   |nil=>show oy (L g)
   |cons f c=>
    show(if d=f then fZ l c else cy d f)=W cY
    rcases cL h with⟨rfl,u⟩|⟨v,h⟩
    .rcases cL g with⟨rfl,w⟩|⟨o,g⟩
     .rwa [aJ rfl];show j _ _ u w
     .rwa [aL o];show g
    .rcases cL g with⟨rfl,z⟩|⟨o,g⟩
     .rwa [aL v];show h
     .have t:=i _ _ h g
      rwa[aL λx=>by clear g o;subst x;show oy (Oh.1 d _ t)];show t
theorem Oi(a b:D):cy a b=W lF->a=b:=aa1.1 a b
theorem aa4(a:D)(o:Ordering):cy a a=W o->o= lF:=Oh.1 a o
theorem Oj(a b:D)(o:Ordering):cy a b=W o->cy b a=W o.swap:=aa2.1 a b o
theorem Ol(a b c:D):cy a b=W cY->cy b c=W cY->cy a c=W cY:=aa3.1 a b c
section
variable{prog:ki}{w:aU}{g g':G}
theorem aa5(a b:K):Builtin.«tuple.__lt__» ⟨[a,b],[]⟩=(do
 if !(<-vw b (aZ "tuple"))then return <-ret .notImplemented
 let c <-zN a
 let d <-zN b
 for (x,y)in c.toList.zip d.toList do
  if !(<-eqBool x y)then
   rule "tuple.compare.by-the-first-pair-that-differs";return <-ret (<-yP iO x y)
 ret (Ks iO c.size d.size)):=rfl
theorem R.aa6:(∀x:D,∀{y:D}{a b:az}{A:bK}{E:az->aA->Prop}{s:aA}{Q:az->aA->Prop}{o:Ordering},R w g s.heap a x->R w g' s.heap b y->x.bF=af->y.bF=af->A.units+8*x.kd+8<cv->cy x y=aa o->Q (eh (o== cY)) s->aj (ar prog w) A (yP iO a b) Q E s) /\
 ∀M:List D,∀{es:List D}{I H:List az}{A:bK}{E:az->aA->Prop}{s:aA}{R:Option Fin×PUnit->aA->Prop}{o:Ordering},RL w g s.heap I M->RL w g' s.heap H es->D.bT M=af->D.bT es=af->A.units+8*D.du M+8<cv->fZ M es=aa o ->
  (∀r,(r=(aa (nG (il (eh (o== cY)))),iS)\/r=(ae,iS)/\aK (I.length<H.length)=(o== cY))->R r s) ->
  aj (ar prog w) A (lJ (I.zip H) (ae,iS) λ(p:az×az) X=>do
   if !(<-eqBool p.1 p.2)then
    rule "tuple.compare.by-the-first-pair-that-differs"
    let v <-yP iO p.1 p.2
    let f <-ret v
    bx (tA (aa f,iS))
   else bx (iR (ae,iS))) R E s:=by
 show D.xx ?_ ?_ ?_ (λd r=>λX X X X X h X=>nc r h) ?_ ?_
 .intro i y a b A E s Q o J B X K hu h c
  clear K;revert B;show ee y (cI h) λj q B=>?_;have h:=q
  show gu a J λt=>?_;show gu b B λu=>?_
  show wpAny_lt_int ?_
  have:aK (i<j)=(o== cY):=by
   rwa[<-h,Bool.eq_iff_iff,decide_eq_true_iff,bX,oD]
  rwa[this];show c
 .intro i y a b A E s Q o J B X K hu h c
  clear K;revert B;show ee y (cS h) λj q B=>?_;have h:=q
  show ee a J λt X=>?_;show bR B λu N X=>?_;obtain rfl:=N
  show P.lt_str ?_
  have:aK (i.cps.toList<j.cps.toList)=(o== cY):=by
   rwa[<-h]
   by_cases e:i=j
   .rwa [aJ e,e];show ef (rj _)
   .rwa [aL e]
    by_cases l:i.cps.toList<j.cps.toList
    .rwa [aJ l,dA l];rfl
    .rwa [aL l,ef l];rfl
  rwa[this];show c
 .intro l ih y a b A E s Q o J B kx K hu h c
  revert B K;show ee y (cT h) λl' q B K=>?_;have h:=q
  show tQ a J λa I n W X X hl=>?_
  show tQ b B λb H m Y X X U=>?_
  have hu:A.units+8*(D.du l+1)+8<cv:=hu
  have Z:s.TypeIs (ao a) "tuple" :=⟨_,W,rfl⟩
  have L:s.TypeIs (ao b) "tuple" :=⟨_,Y,rfl⟩
  show wpAny_richCompare_same_room Z L F.slot_tuple_lt (gE F.slot_tuple_lt Z F.entry_tuple_lt ?_ (F.args_tuple_lt_2 _ _)) (bY (aC (ew ..) (ew ..)) ‹_›)
  rwa[aa5]
  show ai (qQ L Iy ?_)
  show ai (Cp W rfl (ai (Cp Y rfl ?_)))
  show ai (ih hl U kx K (lm hu) h λr V=>?_)
  rcases V with rfl|⟨rfl,V⟩
  .show aD ⟨_,rfl,ne_of_beq_false rfl,c⟩
  .show aD ⟨_,rfl,ne_of_beq_false rfl,?_⟩
   rwa[show Ks iO I.size H.size=eh (o== cY)from ![<-V]]
   show c
 .rintro es I H A E s R o rfl r X X X h c
  rwa[Jm,td]
  induction es using bH with
  |nil=>obtain rfl:=r;show aD (c _ (aW ⟨rfl,![<-aH h]⟩))
  |cons=>revert c;show mx H r λX X X c=>?_;show aD (c _ (aW ⟨rfl,by rwa[<-aH h];show dA (dm _)⟩))
 .rintro x l i j es I H A E s R o ⟨v,I,rfl,J,rl⟩ r k k' hu h c
  induction es using bH with
  |nil=>obtain rfl:=r;rwa[Dp,td];show aD (c _ (aW ⟨rfl,![<-aH h]⟩))
  |cons y es=>
   revert c;show my H r λu H B GQ c=>?_
   have hu:A.units+8*hA x.kd (D.du l)+8<cv:=hu
   rwa[za,ny]
   show ai (ai (Pq.R.Ae J B (au k).1 (au k').1 (KH (lc hu)) ?_))
   rcases cL h with⟨e,h⟩|⟨e,h⟩
   .rwa [dA e,ym,aL fe]
    show aD (j rl GQ (au k).2 (au k').2 (ld hu) h λz hz=>c z ?_)
    rcases hz with rfl|⟨rfl,hz⟩
    .show aY rfl
    .show aW ⟨rfl,by rwa[<-hz];show decide_eq_decide.mpr IS⟩
   .rwa [ef e,Iw,aJ rfl]
    show ai (iJ (ai (i J B (au k).1 (au k').1 (lc hu) h (ai (aD (aD (aD ?_)))))))
    show c _ (aY rfl)
theorem R.ltK(N:Nat){E:K->H->Prop}(e:R w g s.heap a x)(f:R w g' s.heap b y)(h:x.bF=U)(i:y.bF=U)(_:x.kd<=N):d.units+8*x.kd+8<cv->cy x y=W o->c (eh (o== cY)) s->V (Z prog w) d (yP iO a b) c E s:=R.aa6.1 x e f h i
end
def n5(a:List D):Prop:=∀x∈a,∀y∈a,(cy x y).isSome=U
def rk(a:List D)(d:D):Nat:=a.countP λe=>I (cy e d=W cY)
theorem aa7{p q:b->Bool}{l:List b}(h:∀x∈l,p x=U->q x=U)(e:∃x∈l,q x=U/\p x=Y):l.countP p<l.countP q:=by
 induction l with
 |nil=>show dM e λx d=>aF d.1 bc
 |cons a r k=>
  show k0 e λx d i f=>?_
  by_cases g:p a=U
  .rwa [Dv g,Dv (h a (a7 ..) g)]
   show Nat.succ_lt_succ (k (λy c=>h y (bq _ c)) ⟨x,(bB.mp d).resolve_left λe=>?_,i,f⟩)
   rw[e,g]at f;show ff f.symm
  .rwa [Jn g]
   by_cases j:q a=U
   .rwa [Dv j]
    show yV (Jo λy c=>h y (bq _ c))
   .rwa [Jn j]
    show k (λy c=>h y (bq _ c)) ⟨x,(bB.mp d).resolve_left λe=>j (e▸i),i,f⟩
theorem uO(b:x∈a)(h:cy x y=W cY):rk a x<rk a y:=by
 show aa7 (λe c p=>?_) ⟨x,b,dA ‹_›,?_⟩
 .simp only [decide_eq_true_eq]at p |-;show Ol _ _ _ p h
 .rwa [decide_eq_false_iff_not];intro q;show aF (aa4 x _ q) (aQ rfl)
theorem Om(d:n5 a)(b:x∈a)(c:y∈a)(h:cy x y=W o):I (rk a x<rk a y)=(o== cY):=by
 induction o with
 |lt=>show dA (uO b h)
 |eq=>rwa[Oi _ _ h];show ef (cq _)
 |gt=>show ef (Nat.not_lt_of_lt (uO c (Oj _ _ _ h)))
theorem GV(e:n5 a)(c:x∈a)(d:y∈a)(h:rk a x=rk a y):x=y:=by
 obtain⟨o,b⟩:=fF.mp (e x c y d)
 induction o with
 |lt=>show aF h (eU (uO c b))
 |eq=>show Oi _ _ b
 |gt=>show aF h.symm (eU (uO d (Oj _ _ _ b)))
theorem aa8(j:n5 c)(g:d∈c) :(∀e∈l,e∈c)->l.Pairwise (λa b=>rk c a<=rk c b)->(jY d l).Pairwise λa b=>rk c a<=rk c b:=by
 induction l with
 |nil=>showλz z=>ou.mpr ⟨λz h=>aF h bc,wo⟩
 |cons e r t=>
  intro k m
  have i:=ou.mp m
  have n:=k e a7
  by_cases q:cy d e=W cY
  .rwa [k5 q]
   have p:=eL (uO g q)
   show ou.mpr ⟨λa f=>(bB.mp f).elim (λe=>e▸p) λf=>P p (i.1 a f),m⟩
  .rwa [jZ q]
   show ou.mpr ⟨λa f=>(bB.mp ((Lr d r).mem_iff.mp f)).elim (λu=>?_) (i.1 a),t (λa f=>k a (bq _ f)) i.2⟩
   rwa[u]
   show(fF.mp (j d g e n)).elim λo s=>fi λw=>q (s.trans (aI W (bX.mp ((Om j g n s).symm.trans (dA w)))))
theorem Oo(h:n5 c) :(∀e∈l,e∈c)->(gK l).Pairwise λa b=>rk c a<=rk c b:=by
 induction l with
 |nil=>showλz=> wo
 |cons d r i=>showλf=>aa8 h (f d a7) (λe g=>f e (bq _ ((j0 r).mem_iff.mp g))) (i λe g=>f e (bq _ g))
theorem GW(e:n5 c)(f:d.Perm c)(g:d.Pairwise λa b=>rk c a<=rk c b):d=gK c :=
 List.Perm.eq_of_pairwise (le:=λa b=>rk c a<=rk c b) (λz z h i j k=>GV e (f.mem_iff.mp h) ((j0 c).mem_iff.mp i) (ku j k)) g (Oo e λz l=>l) (f.trans (j0 c).symm)
section
variable{w:aU}{g:G}{h:b0}
theorem RL.pq(r:RL w g h (v::f) c):∃d i,c=d::i/\R w g h v d/\RL w g h f i:=by
 induction c using bH with
 |nil=>show KL r
 |cons d i=>
  show eX (r) λz z e a b=>?_
  show cR (jG e) λj k=>?_;clear e;obtain rfl:=j;obtain rfl:=k
  show x2 d i ⟨rfl,a,b⟩
theorem RL.perm(p:f.Perm i)(r:RL w g h f ds):∃es,RL w g h i es/\es.Perm ds:=by
 induction p generalizing ds with
 |nil=>show⟨ds,r,oG _⟩
 |cons x _ t=>
  show oK r.pq λd l j a b=>?_;clear r;obtain rfl:=j
  show aV (t b) λes k m=>?_
  show⟨_::es,.cons a k,m.cons _⟩
 |swap x y l=>
  obtain⟨d,l,rfl,a,b⟩:=r.pq
  clear r;obtain⟨e,l,rfl,b,c⟩:=b.pq
  show⟨_,.cons b (.cons a c),wh ..⟩
 |trans _ _ n o=>
  show aV (n r) λes k m=>?_
  show aV (o k) λu q s=>?_
  show⟨u,q,s.trans m⟩
open Classical in
def i0(w:aU)(g:G)(h:b0)(a:List D)(v:K):Nat:=if q:∃d,R w g h v d/\d.bF=U then rk a q.choose else 0
theorem xA(r:R w g h v d)(k:d.bF=U):i0 w g h a v=rk a d:=by
 unfold i0
 rwa[dif_pos (⟨d,r,k⟩:∃d,R w g h v d/\d.bF=U),R.inj (⟨d,r,k⟩:∃d,R w g h v d/\d.bF=U).choose_spec.1 r (⟨d,r,k⟩:∃d,R w g h v d/\d.bF=U).choose_spec.2 k]
theorem j6(k:D.bT a=U):∀d∈a,d.bF=U:=by
 induction a with
 |nil=>showλz h=>aF h bc
 |cons e r b=>showλd h=>(bB.mp h).elim (λe=>e▸(au k).1) (b (au k).2 d)
theorem RL.mem(r:RL w g h c f):∀v∈c,∃d∈f,R w g h v d:=by
 induction f generalizing c with
 |nil=>rwa[show c=[]from r];showλz h=>aF h bc
 |cons u m k=>
  show oK r λx n i a b=>?_;obtain rfl:=i
  showλv j=>(bB.mp j).elim (λe=>⟨_,a7,e▸a⟩) λj=>let⟨d,l,r⟩:=k b v j;⟨d,bq _ l,r⟩
theorem RL.GX(r:RL w g h c d)(k:D.bT d=U):c.map (i0 w g h es)=d.map (rk es):=by
 induction d generalizing c with
 |nil=>rwa[show c=[]from r];rfl
 |cons u i f=>
  show oK r λx j e a b=>?_;obtain rfl:=e
  rwa[ea,ea,xA a (au k).1,f b (au k).2]
theorem GY{c i:Type}{f:c->i}:∀{l:List c},(∀x∈l,∀y∈l,f x=f y->x=y)->l.Nodup->(l.map f).Nodup
 |[],_,_=>kU
 |a::r,h,n=>by
  obtain⟨j,k⟩:=i9.mp n
  show i9.mpr ⟨λq=>?_,GY (λx m y o=>h x (bq _ m) y (bq _ o)) k⟩
  show fW (q) λb d e=>?_
  show j (h b (bq _ d) a (a7 ..) e▸d)
theorem Oq(a:List K)(f:K->Nat):((kW a).toList.map λp=>f p.1)=a.map f:=by
 rwa[zp]
 induction a with
 |nil=>rfl
 |cons v r b=>simp only[za,ea,b]
theorem aa9{f:List az}{m:List D}{c:Array lE}(Q:RL w g h f m)(k:D.bT m=U)(H:n5 m)(z:c.Perm (kW f))(I:hO (i0 w g h m) c (kW f).size):RL w g h (c.map (·.2)).toList (gK m):=by
 have A:c.toList.Perm (f.zip f):=by rwa[<-zp];show zH.mp z
 have u:(c.map (·.2)).toList.Perm f:=by
  rwa[Array.toList_map]
  have:=A.map (λp:lE=>p.2)
  rwa[show(f.zip f).map (λp:lE=>p.2)=f from List.map_snd_zip (bG _)]at this
 show aV (RL.perm u.symm Q) λes r B=>?_
 have J:D.bT es=U:=by
  have:=j6 k
  have:∀l:List D,(∀d∈l,d.bF=U)->D.bT l=U:=λl=>by
   induction l with
   |nil=>intro Z;rfl
   |cons a b ih=>showλq=>dN (q a (a7 ..)) (ih λd v=>q d (bq _ v))
  show this es λd v=>j6 k d (B.mem_iff.mp v)
 have e:es=gK m:=by
  show GW H B ?_
  have:(es.map (rk m)).Pairwise (· <= ·):=by
   rwa[<-(RL.GX (es:=m) r J),vP]
   intro i j s K x
   have t:i<c.size:=by simpa using s
   have o:j<c.size:=by simpa using K
   have n:∀i (s:i<c.size),(c[i]'s).1=(c[i]'s).2:=λi s=>(DA (A.mem_iff.mp (by simpa using List.getElem_mem (by simpa using s:i<c.toList.length)))).1
   have y:=I i j (eL x) (by rwa[<-z.size_eq];show o)
   unfold KV at y
   rw[getElem?_pos c i t,getElem?_pos c j o]at y
   simpa[<-n i t,<-n j o]using y
  show Dl.mp this
 rwa[<-e];show r
end
section
variable{prog:ki}{w:aU}{g:G}{A:bK}{E:az->aA->Prop}{s:aA}
theorem aba(i j:Int):I (i<j)=(tH i j== cY):=![Bool.eq_iff_iff,decide_eq_true_iff,bX,oD]
theorem abb(i j:bu):I (i.cps.toList<j.cps.toList)=((if i=j then lF else if i.cps.toList<j.cps.toList then cY else .gt)== cY):=by
 by_cases e:i=j
 .rwa [aJ e,e];show ef (rj _)
 .rwa [aL e]
  by_cases l:i.cps.toList<j.cps.toList
  .rwa [aJ l,dA l];rfl
  .rwa [aL l,ef l];rfl
theorem xB{a b:Nat}{P:Prop}(h:a=b)(k:om a b=Y):P:=aF h (vC k)
theorem Ot(e:R w g s.heap a x)(f:R w g s.heap b y)(l:x.kk=0\/x.kk=1)(h:cy x y=W o)(k:c (o== cY) s):V (Z prog w) A (oneLt' U a b) c E s:=by
 induction x using bJ with
 |int i=>
  show bR (cI h) λj d q=>?_;clear h;obtain rfl:=d
  show gu a e λt=>?_;show gu b f λu=>?_
  show oneLt_int ?_
  rwa[aba,q];show k
 |str i=>
  show bR (cS h) λj d q=>?_;clear h;obtain rfl:=d
  show ee a e λt z=>?_;show ee b f λu z=>?_
  show oneLt_str ?_
  rwa[abb,q];show k
 |tup=>show l.elim (xB · rfl) (xB · rfl)
 |_=>show nn h
theorem abc(p:c (o== cY) s)(i:Nat)(r:RL w g s.heap m f)(t:RL w g s.heap j d)(k:D.bT f=U)(k':D.bT d=U)(z:A.units+8*D.du f+8<cv)(h:fZ f d=W o)(B:n=I (m.length<j.length))
(I:i=0->∀x∈f.head?,x.kk=0\/x.kk=1):KatLex prog w A af n c (m.zip j) i s:=by
 induction f generalizing d m j i with
 |nil=>
  obtain rfl:=r
  rwa[Jm]
  show kat_nil ?_
  rwa[B]
  induction d using bH with
  |nil=>clear B;obtain rfl:=t;rw[<-aH h]at p;show p
  |cons=>clear B;show mx j t λZ Z Z=>?_;rw[<-aH h]at p;rwa[dA (dm _)];show p
 |cons x l ih=>
  obtain⟨v,m,rfl,a,r⟩:=r
  induction d using bH with
  |nil=>
   obtain rfl:=t
   rwa[Dp]
   show kat_nil ?_
   rwa[B];rw[<-aH h]at p;show p
  |cons y d=>
   obtain⟨u,j,rfl,b,t⟩:=t
   have z:A.units+8*hA x.kd (D.du l)+8<cv:=z
   rwa[za]
   show kat_cons (R.Ae a b (au k).1 (au k').1 (KH (lc z)) ?_)
   rcases cL h with⟨e,h⟩|⟨e,h⟩
   .rwa [dA e]
    show kat_yes (ih (i+1) r t (au k).2 (au k').2 (ld z) h (B.trans (decide_eq_decide.mpr IS)) λq=>aF q (pK _))
   .rwa [ef e]
    show kat_no ?_
    by_cases H:i=0
    .subst H
     show Ot a b (I rfl x rfl) h p
    .rwa [show(af&&i==0)=ah from beq_eq_false_iff_ne.mpr H]
     show kat_one v u (R.ltK _ a b (au k).1 (au k').1 (bG _) (lc z) h p)
theorem abd(e:R w g s.heap a (aw l))(f:R w g s.heap b (aw m))(k:D.bT l=U)(i:D.bT m=U)(j:A.units+8*D.du l+8<cv)(p:∀x∈l.head?,x.kk=0\/x.kk=1)
(h:cy (aw l) (aw m)=aa o)(q:c (o== cY) s):aj (ar prog w) A (keyLt' (tuples' af) a b) c E s:=by
 show tQ a e λa v n r Z Z t=>?_
 show tQ b f λb y z u Z Z d=>?_
 show kat_lt r rfl u rfl (abc q 0 t d k i j h (![jT,jT]) λZ=>p)
theorem GZ(a:k<3)(h:(mE d).kk=k):∃x l,d= aw (x::l)/\x.kk=k:=by
 induction d using bJ<;>first|show aF a (i8.mpr (bC h))|skip
 rename_i l
 induction l using bH with
 |nil=>show aF a (i8.mpr (bC h))
 |cons x l=>show x2 x l ⟨rfl,h⟩
theorem abe(m:k<3)(r:RL w g s.heap c b)(h:∀d∈b,(mE d).kk=k):∃i,KatTups s.heap c i/\RL w g s.heap i (b.map mE):=by
 induction b generalizing c with
 |nil=>rwa[show c=[]from r];show⟨[],KatTups.nil,.nil⟩
 |cons d b o=>
  obtain⟨v,z,rfl,a,r⟩:=r
  show aV (o r λd p=>h d (bq _ p)) λi t q=>?_
  show nH (GZ m (h d a7)) λx l j Z=>?_;clear h;obtain rfl:=j
  obtain⟨a,B,n,rfl,u,Z,Z,f,Q,e,y,Z⟩:=a
  show⟨f::i,KatTups.cons u rfl rfl (![<-jf,e]) t,.cons y q⟩
theorem abf(r:RL w g s.heap a b)(h:∀d∈b,d.kk=0):∀v∈a,Looks (Z prog w) s.heap (oi v) (aZ "int"):=λv c=>by
 obtain⟨d,e,f⟩:=RL.mem r v c
 have:=h d e
 clear e;induction d using bJ<;>first|show xB this rfl|(clear c;show gu v f λt=>?_;show Ep rfl)
theorem Ou(r:RL w g s.heap a b)(h:∀d∈b,d.kk=1):∀v∈a,Looks (Z prog w) s.heap (oi v) (aZ "str"):=λv c=>by
 obtain⟨d,e,f⟩:=RL.mem r v c
 have:=h d e
 clear e;induction d using bJ<;>first|show xB this rfl|(clear c;show ee v f λt z=>?_;show Ep rfl)
structure Ov (prog:ki) (w:aU) (g:G) (A:bK) (E:az->aA->Prop) (s:aA) (vs:List az) (ds:List D) (κ:rm):Prop where
 kind:∀Q:rm->aA->Prop,Q κ s->aj (ar prog w) A (keyKind' vs.toArray) Q E s
 lt:∀v u,∀d∈ds,∀e∈ds,R w g s.heap v d->R w g s.heap u e->∀o,cy d e=aa o->∀(Q:Bool->aA->Prop) E',Q (o== cY) s->aj (ar prog w) A (keyLt' κ v u) Q E' s
theorem abg(L:A.units+200<cv)(rl:RL w g s.heap b a)(K:D.bT a=U)(q:∀d∈a,d.kd<=7)(M:2<=b.length)
(i:(∀d∈a,d.kk=1)\/(∀d∈a,(mE d).kk=0)\/(∀d∈a,(mE d).kk=1)):∃N,Ov prog w g A E s b a N:=by
 rcases i with i|i
 .show ⟨oneType',λQ n=>kas_kind M (Ou rl i) rfl rfl n,λv u d q e Z I J o h Q P n=>by rwa[keyLt'_oneType];show Ot I J (aW (i d q)) h n⟩
 .obtain ⟨k,j,r,c⟩:∃k,k<3/\(k=0\/k=1)/\∀d∈a,(mE d).kk=k:=by
   rcases i with i|i
   .show ⟨0,dm _,aY rfl,i⟩
   .show ⟨1,gW _,aW rfl,i⟩
  show aV (abe j rl c) λfs t rf=>?_
  have B:0<fs.length:=by rwa[rf.length,bN,<-rl.length];show C1 ‹_›
  have Ow:∀d∈a.map mE,d.kk=k:=λd q=>by show bR (b3.mp q) λe H f=>?_;clear q;obtain rfl:=f;show c e H
  show⟨tuples' af,λQ n=>?_,λv u d p e H I J o h Q P n=>?_⟩
  .clear j c;rcases r with rfl|rfl
   .show kat_kind (T:= aZ "int") t B (abf rf Ow) rfl n
   .show kat_kind (T:= aZ "str") t B (Ou rf Ow) rfl n
  .show nH (GZ j (c d p)) λx l f h1=>?_;obtain rfl:=f
   show nH (GZ j (c e H)) λy m f Z=>?_;obtain rfl:=f
   have U:D.du (x::l)+1<=7:=q _ p
   show abd I J (j6 K _ p) (j6 K _ H) (u8 L U) (λz V=>aH V▸h1▸r) h n
theorem abh{c:List az}{b:List D}{q:rm}(K:Ov prog w g A (λZ Z=>False) s c b q)(N:RL w g s.heap c b)(t:D.bT b=af)(z:n5 b):n2 (i0 w g s.heap b) (ar prog w) A E s (kW c) q:=λa i j Q m k P B=>by
 have U:=m.size
 have n:i<(bZ a).size:=ey ‹_› (gq ‹_›)
 have p:j<(bZ a).size:=ey P U.symm
 have V:(bZ a).toList.Perm (c.zip c):=by rwa[<-zp];show zH.mp m.perm
 have h:∀i (k:i<(bZ a).size),∃v d,(bZ a)[i]?=W (v,v)/\v∈c/\d∈b/\R w g s.heap v d:=λi k=>by
  show cR (DA (V.mem_iff.mp (show(bZ a)[i]∈(bZ a).toList from DO.mpr (JS k)))) λe H=>?_
  show aV (N.mem _ H) λd f r=>?_
  show x2 ((bZ a)[i].1) d ⟨by rwa[getElem?_pos _ i k];congr 1;show iQ rfl e.symm,H,f,r⟩
 show ix (h i n) λv d ev Z f I=>?_
 show ix (h j p) λu e J Z l L=>?_
 obtain⟨o,M⟩:=fF.mp (z d f e l)
 rwa[ltAt'_eq]
 show eV (tq ?_)
 show jb _ _ _ _ (do let x <-elem' (bZ a) i;let y <-elem' (bZ a) j;lt' x y) Q a
 rwa[elem'_eq,elem'_eq,ev,J]
 show eV (gX (eV (gX ?_)))
 rwa[lt'_eq]
 show eV (tq ?_)
 rwa[m.kind]
 show eV (wpS_lift (qW (K.lt v u d f e l I L o M _ _ ⟨rfl,?_⟩)))
 have:aK (KV (i0 w g s.heap b) (bZ a) i<KV (i0 w g s.heap b) (bZ a) j)=(o== cY):=by
  unfold KV
  rwa[ev,J]
  show aK (i0 w g s.heap b v<i0 w g s.heap b u)=_
  rwa[xA I (j6 t d f),xA L (j6 t e l)]
  show Om z f l M
 rw[this]at B
 show gX B
theorem abi(r:RL w g h c b)(j:∀d∈b,d.kk=0):∃f,IntsAre c f/\b=f.map aq:=by
 induction b generalizing c with
 |nil=>rwa[show c=[]from r];show⟨[],.nil,rfl⟩
 |cons d b k=>
  obtain⟨v,l,rfl,a,r⟩:=r
  show aV (k r λd h=>j d (bq _ h)) λf i e=>?_
  have:=j d a7
  clear j;induction d using bJ<;>first|show xB this rfl|(show gu v a λt=>?_;show⟨_::f,.cons _ _ i,![e]⟩)
theorem Ox(i:IntsAre a b):RL w g h a (b.map aq):=by
 induction i with
 |nil=>rfl
 |cons n t r c=>show .cons (.int n t) c
theorem abj(a:List Int):n5 (a.map aq):=λx b y c=>by
 show ct x (b3.mp b) λi z=>?_
 show ct y (b3.mp c) λj z=>?_
 rfl
theorem abk(hu:A.units+200<cv)(M:s.heap.get? a=aa (eF "list" vs.toArray n)) (rl:RL w g s.heap vs f) (hs:gx f=aa m)
 (h:∀t:Array az,RL w g s.heap t.toList m->t.size=vs.length->c (nG (il aN)) {s with heap:=tu s.heap a vs t}):
 aj (ar prog w) A (Builtin.«list.sort» ⟨[ao a],[]⟩) c E s:=by
 obtain⟨⟨Oy,v,Oz,p⟩,hs⟩:=iff hs
 .obtain rfl:=aH hs
  have OA:∀d∈f,d.kd<=7:=by simpa using Oz
  have u:=rl.length
  unfold nK at p
  rcases iI _ _▸p with p|p
  .have G0:∀d∈f,d.kk=0:=by simpa using p
   clear v hs p OA Oz;revert Oy h u;show z0 f (abi rl G0) λns hi Oy h u=>?_
   show list_sort_tree M hi (by lia) λt xd h1 N h3=>h t ?_ ?_
   .have e:xd.map aq=gK (ns.map aq):=GW (abj ns) (N.map _) (Dl.mpr (h3.imp λ{a b} hab=>by
     by_cases q:a=b
     .rwa [q];show bG _
     .show fi λl=>?_
      have J:cy (aq a) (aq b)=aa cY:=aI aa (oD.mpr (by lia))
      by_cases hm:(aq a)∈ns.map aq
      .have:=uO hm J;lia
      .have:rk (ns.map aq) (aq a)<=rk (ns.map aq) (aq b):=Jo λe X he=>by
        simp only[decide_eq_true_eq]at he |-;show Ol _ _ _ he J
       show aF ‹_› (i8.mpr ‹_›)))
    rwa[<-e];show Ox h1
   .have l2:=N.length_eq
    have l3:=(Ox (w:=w) (g:=g) (h:=s.heap) h1).length
    have l4:t.toList.length=t.size:=ot ..
    simp at l3 u
    lia
  .simp only [eu,iI,decide_eq_true_eq]at p
   obtain⟨⟨p,Y⟩,Z⟩:=p
   have ht:n5 f:=λx hx y hy=>by
    have:=bQ.mp Z x hx
    show bQ.mp this y hy
   have G0:(∀d∈f,d.kk=1)\/(∀d∈f,(mE d).kk=0)\/(∀d∈f,(mE d).kk=1):=by
    rcases p with(p|p)|p
    .show aY (by simpa using p)
    .show aW (aY (by simpa using p))
    .show aW (aW (by simpa using p))
   have agC:Diff (i0 w g s.heap f) (kW vs):=by
    unfold Diff
    rwa[Oq,rl.GX v]
    show GY (λx hx y hy e=>GV ht hx hy e) Y
   have ha:a<s.heap.objs.size:=dt M
   have fin:∀o:fj,(bZ o).Perm (kW vs)->hO (i0 w g s.heap f) (bZ o) (kW vs).size ->
    c (nG (il aN)) {s with heap:=tu s.heap a vs ((bZ o).map (·.2))}:=λo z hq=>
    h _ (aa9 rl v ht z hq) (![DS,z.size_eq,tv])
   rwa[list_sort_plain]
   show ai (listItems_at M rfl ?_)
   show ai (DB M rfl ?_ (by rwa[ot,sW];lia) (cQ _))
   obtain⟨e1,OB⟩:∃e1,(s.heap.update a (jF λX=>#[])).get? a=aa (eF "list" #[] e1):=⟨_,DC M (λX=>#[])⟩
   show ai (DD OB rfl ?_)
   show ai (yH ?_ (by show vs.length<=_;rwa[sW];lia))
   show ai (yC ?_ (cQ _))
   show cU ?_
   have B:(((s.heap.update a (jF λX=>#[])).push (eF "tuple" vs.toArray 0)).push (eF "list" #[] 0)).get? a=aa (eF "list" #[] e1):=dF _ (dF _ OB)
   have sb:=iu s.heap a (jF λX=>(#[]:Array az))
   have H:RL w g (((s.heap.update a (jF λX=>#[])).push (eF "tuple" vs.toArray 0)).push (eF "list" #[] 0)) vs f:=(R.ED (λb us k U=>by
    have V:b≠a:=λe=>by rw[e,M]at U;simp[cP]at U
    show dF _ (dF _ (sb.extBut b _ V U)))).2 f v vs rl
   have abl:∀o:fj,(bZ o).Perm (kW vs)->hO (i0 w g (((s.heap.update a (jF λX=>#[])).push (eF "tuple" vs.toArray 0)).push (eF "list" #[] 0)) f) (bZ o) (kW vs).size ->
    c (nG (il aN)) {s with heap:=tu s.heap a vs ((bZ o).map (·.2))}:=λo z hq=>fin o z (by
    have hz:=z.size_eq
    have hl:(bZ o).toList.Perm (vs.zip vs):=by rwa[<-zp];show zH.mp z
    have L:∀i,i<(bZ o).size->KV (i0 w g (((s.heap.update a (jF λX=>#[])).push (eF "tuple" vs.toArray 0)).push (eF "list" #[] 0)) f) (bZ o) i=KV (i0 w g s.heap f) (bZ o) i:=λi hi=>by
     unfold KV
     rwa[getElem?_pos _ i hi]
     obtain⟨X,hv⟩:=DA (hl.mem_iff.mp (show(bZ o)[i]∈(bZ o).toList from DO.mpr (JS hi)))
     show aV (rl.mem _ hv) λd hd r=>?_
     show aV (H.mem _ hv) λd' GA r'=>?_
     have i1:=j6 v d hd
     have i2:=j6 v d' GA
     have r2:R w g (((s.heap.update a (jF λX=>#[])).push (eF "tuple" vs.toArray 0)).push (eF "list" #[] 0)) (bZ o)[i].1 d:=r.Le (λb us k U=>by
      have V:b≠a:=λe=>by rw[e,M]at U;simp[cP]at U
      show dF _ (dF _ (sb.extBut b _ V U))) i1
     show i0 _ _ _ _ _=i0 _ _ _ _ _
     rwa[xA r2 i1,xA r i1]
    intro i j W hj
    have:=hq i j W hj
    rwa[L i (by lia),L j (ey ‹_› (gq ‹_›))]at this)
   show aj (ar prog w) A _ c E {s with heap:=((s.heap.update a (jF λX=>#[])).push (eF "tuple" vs.toArray 0)).push (eF "list" #[] 0)}
   dsimp only
   have OC:vs.toArray.size=vs.length:=ot ..
   by_cases N:vs.toArray.size<2
   .rwa [aJ N,aJ N]
    show ai (aD ?_)
    rwa[StateT.run_pure]
    show ai (aD ?_)
    dsimp only
    show ai (DD B rfl ?_)
    show ai (DB B rfl ?_ (cQ _) (by rwa[DS];show(kW vs).size<=_;rwa[tv,sW];lia))
    simp only[bne_self_eq_false,vi,if_false]
    show aD (fin (SortSt.mk' general' (vs.toArray.zip vs.toArray) #[] 7 ae) (KC _) ?_)
    intro i j W hj
    have:i=j:=by rw[tv]at hj;lia
    clear hj W;subst this;show bG _
   .rwa [aL N,aL N]
    obtain⟨κ,K⟩:=abg (prog:=prog) (A:=A) (E:=λX X=>False) (s:={s with heap:=((s.heap.update a (jF λX=>#[])).push (eF "tuple" vs.toArray 0)).push (eF "list" #[] 0)}) hu H v OA (fi ‹_›) G0
    have I:Diff (i0 w g (((s.heap.update a (jF λX=>#[])).push (eF "tuple" vs.toArray 0)).push (eF "list" #[] 0)) f) (kW vs):=by
     unfold Diff
     rwa[Oq,H.GX v]
     show GY (λx hx y hy e=>GV ht hx hy e) Y
    show ai (ed (K.kind (λκ' s'=>κ'=κ/\s'=_) ⟨rfl,rfl⟩) ?_ λX X x=>x.elim)
    rintro X X ⟨rfl,rfl⟩
    show ai (ed (aa0 (abh K H v ht) I (st:=SortSt.mk' _ (vs.toArray.zip vs.toArray) #[] 7 ae)
     (Q:=λX o=>(bZ o).Perm (kW vs)/\zm o=ae/\hO (i0 w g (((s.heap.update a (jF λX=>#[])).push (eF "tuple" vs.toArray 0)).push (eF "list" #[] 0)) f) (bZ o) (kW vs).size)
     ⟨KC _,rfl,rfl,rfl⟩ (by rwa[tv];show fi ‹_›) (by rwa[tv];lia) λo a1 a2 a3=>⟨a1,a2,a3⟩) ?_ λX X e=>e)
    rintro⟨⟨⟩,o⟩ s' ⟨rfl,z,hf,hs⟩
    dsimp only
    show ai (DD B rfl ?_)
    show ai (DB B rfl ?_ (cQ _) (by show P (bC ((DS ..).trans (z.size_eq.trans (tv _)))) ?_;rwa[sW];lia))
    rwa[hf]
    simp only[bne_self_eq_false,vi,if_false]
    show aD (abl o z hs)
end
section
variable{w:aU}{A:bK}{E:az->aA->Prop}{g:G}{s:aA}{σ:St}
def G1(w:aU)(A:bK)(g:G)(s:H)(v:K)(P:List D->Prop):Prop :=
 ∀(b:bK)(E:K->H->Prop)(Q:List K->H->Prop),b.handled=A.handled->(∀c a d,P d->cu s a->RL w g a.heap c d->Q c a)->V (Z pw w) b (vu v) Q E s
theorem abm{h:b0}(d:a.size=vs.length):∃n,(tu (h.push (eF "list" vs.toArray 0)) h.objs.size vs a).get? h.objs.size=W (bO a n)/\∀b o,h.get? b=W o->(tu (h.push (eF "list" vs.toArray 0)) h.objs.size vs a).get? b=W o:=by
 show⟨_,DC (dF (eF "list" #[] 0) (dF (eF "tuple" vs.toArray 0) (DC (dQ _ rfl:(h.push (eF "list" vs.toArray 0)).get? h.objs.size=W (eF "list" vs.toArray 0)) λz=>#[]))) λz=>a,λb o e=>?_⟩
 have c:h.objs.size≠b:=kv (dt e)
 rwa[vW _ _ c]
 show dF _ (dF _ ?_)
 rwa[vW _ _ c]
 show dF _ e
theorem Bh(U:A.units+300<cv)(I:Inv w g s σ)(V:G1 w A g s v c)(y:∀k,c k->gx k=aa i)(z:PE w g s σ (ay i) f):
 aj (ar pw w) A (b9 (bM "sorted") [v]) f E s:=by
 show Calls.call_function_entry kind_sorted plain_sorted entry_sorted (args_sorted1 _) ?_
 show ai (m:=checkCount "sorted" 1 1 _) (aD ?_)
 show ai (V _ _ _ rfl λvs j k W G B=>?_)
 have p:=y k W
 have Z:k.length<64:=(iff p).1.1
 have H:=B.length
 show ai (yC ?_ (by show vs.length<=_;rwa[sW];lia))
 have t:(j.heap.push (eF "list" vs.toArray 0)).get? j.heap.objs.size=aa (eF "list" vs.toArray 0):=dQ _ rfl
 show ai (cU (gE slot_list_sort ⟨_,t,rfl⟩ entry_list_sort (abk (g:=g) (s:={j with heap:=j.heap.push (eF "list" vs.toArray 0)}) (show A.units+202<cv from la U (aQ rfl)) t (B.kept λb o e=>dF _ e:RL w g (j.heap.push (eF "list" vs.toArray 0)) vs k) p λu J K=>⟨_,rfl,?_⟩) (args_list_sort _)))
 show aV (abm (h:=j.heap) (vs:=vs) K) λn L M=>?_
 have N:cu s {j with heap:=tu (j.heap.push (eF "list" vs.toArray 0)) j.heap.objs.size vs u}:=⟨λb o e=>M b o (G.keep b o e),P G.size (NJ (bG _) L),G.gens,G.os⟩
 show aD ⟨_,rfl,?_⟩
 show z _ g _ (lU N _) (r6 I N) (.lst L (xr I G.size) (by rwa[K];lia) ((R.ED λb us m r=>?_).2 _ ?_ _ J))
 .rcases yZ b j.heap.objs.size with q|q
  .show M b _ ?_
   rwa[Heap.get?_push_ne _ _ _ (eU q)]at r
  .rcases Nat.eq_or_lt_of_le q with q|q
   .subst q;rw[t]at r;simp[cP]at r
   .have:=dt r
    rw[eP]at this
    show aF (iL this) (nu q)
 .have:∀l:List D,(∀d∈l,d.bF=af)->D.bT l=af:=λl=>by
   induction l with
   |nil=>intro _;rfl
   |cons a b ih=>showλq=>dN (q a (a7 ..)) (ih λd x=>q d (bq _ x))
  unfold gx at p
  split at p
  .rename_i Y
   clear y z J;cases p
   show this _ λd x=>j6 Y.2.1 d ((j0 k).mem_iff.mp x)
  .contradiction
theorem abn{a:aR}{b:Array K}{n:Nat}{c:List D}(d:s.heap.get? a=W (bO b n))(i:b.size<=2^20)(e:RL w g s.heap b.toList c):G1 w A g s (M a) (· =c):=λj E Q z f=>by
 show NL d (by show P ‹_› (by show br ..)) λl k h=>f _ _ _ rfl ⟨k,h,rfl,rfl⟩ (e.kept k)
theorem G5{T:String}(b:T= "dict" \/T= "dict_items" \/T= "set") (c:A.handled=N) (I:Inv w g s σ) (d:qz w T x g s a):G1 w A g s (M x) a:=λh E Q e f=>
 aaL b (e.trans c) I d f
theorem G6(h:nK a=U):n5 a:=by
 unfold nK at h
 rcases iI _ _▸h with c|c
 .have b:∀d∈a,d.kk=0:=by simpa using c
  intro x e y f
  have i:=b x e
  have j:=b y f
  clear e;induction x using bJ<;>first|show aF i (aQ rfl)|skip
  clear f;induction y using bJ<;>first|show aF j (aQ rfl)|skip
  rfl
 .rw [eu]at c
  showλx e y f=>bQ.mp (bQ.mp c.2 x e) y f
theorem xC:∀{l:List D},(∀d∈l,d.bF=U)->D.bT l=U
 |[],_=>rfl
 |a::b,q=>dN (q a (a7 ..)) (xC λd c=>q d (bq _ c))
theorem xD{a b:List D}(p:a.Perm b)(h:b.all f=U):a.all f=U:=bQ.mpr λx c=>bQ.mp h x (p.mem_iff.mp c)
theorem abo(p:a.Perm b)(h:gx b=W l):gx a=W l:=by
 unfold gx at h |-
 split at h
 .rename_i i
  show a4 (i) λj k m f=>?_
  cases h
  have c:nK a=U:=by
   unfold nK at f |-
   rcases iI _ _▸f with c|c
   .rwa [xD p c,Bool.true_or]
   .simp only [eu,iI,decide_eq_true_eq]at c |-
    obtain⟨⟨c,n⟩,u⟩:=c
    show aW ⟨⟨?_,p.nodup_iff.mpr n⟩,bQ.mpr λx o=>bQ.mpr λy q=>(G6 f) x (p.mem_iff.mp o) y (p.mem_iff.mp q)⟩
    rcases c with(c|c)|c
    .show aY (aY (xD p c))
    .show aY (aW (xD p c))
    .show aW (xD p c)
  rwa[aJ ⟨by rwa[p.length_eq];show j,xC λd r=>j6 k d (p.mem_iff.mp r),xD p m,c⟩]
  congr 1
  show GW (G6 f) ((j0 a).trans p) ?_
  show Oo (G6 f) λe t=>p.mem_iff.mp t
 .contradiction
end
noncomputable def kO(a:Bool):cC:={cls:= aZ "set",dict:=N,data:=.set #[] 0 (.fresh 0 0 a)}
section
variable{w:aU}{A:bK}{E:az->aA->Prop}{s:aA}
noncomputable def gy(w:aU):Bool:= !w.params.followText "set-order"
theorem abp(a:K)(h:Q₁ (M s.heap.objs.size) {s with heap:=s.heap.push (kO (gy w))}):
 gm (Z pw w) A (.call (bM "set.__new__") ⟨[aZ "set",a],[]⟩) (wants Q₁ E) s:=by
 show CI ?_
 show V _ A.in1 (do checkBuiltinCall "set.__new__" ⟨[aZ "set",a],[]⟩;again (kC "set.__new__" ⟨[aZ "set",a],[]⟩)) _ _ s
 show J (yD (PySem.F.newCall_set_1 a) (aD ⟨qX PySem.F.plain_set_new _,nk PySem.F.entry_set_new ?_⟩))
 delta Builtin.«set.__new__» Rn
 have b:=sub_set_self
 obtain⟨c,d,e,f,g⟩:=s
 wp_walk
 show sR (aD ?_)
 dsimp only
 show J (wpAny_alloc (aD ?_))
 show aD h
set_option maxHeartbeats 3200000 in
theorem abq{a:K}{Q:K->H->Prop}
(h:aj (ar pw w) A.in1.in1 (Builtin.«set.__init__» ⟨[ao s.heap.objs.size,a],[]⟩)
  (λm l=>match m with|.done f=>wants (λr b=>r= aN/\Q (ao s.heap.objs.size) b) E (fO f) l|.again p=>p.quiet=af/\gm (ar pw w) A.in1 p (wants (λr b=>r= aN/\Q (ao s.heap.objs.size) b) E) l)
  (λe l=>wants (λr b=>r= aN/\Q (ao s.heap.objs.size) b) E (jS e) l) {s with heap:=s.heap.push (kO (gy w))}):aj (ar pw w) A (b9 (aZ "set") [a]) Q E s:=by
 refine p9 p7.mro λc B q=>?_
 have n:=p7.made
 have t:=p7.sub
 refine vv (CI ?_)
 change aj _ _ (callAny (aZ "set") _) _ _ _
 refine aD ⟨Code.quiet_builtin _ (by decide +kernel),nk PySem.F.entry_type_call ?_⟩
 rwa[Around.under_plain (weight_type_call_type "set" [a] []) rfl]
 have H:=p7.notType
 have I:=p7.canCreate
 have u:=PySem.F.typeCall_set_1 a
 repeat (any_goals (first|assumption|wp_step))
 refine codeAny_mono (abp a (E:=E) (Q₁:=λj g=>j= ao s.heap.objs.size/\g={s with heap:=s.heap.push (kO (gy w))}) ⟨rfl,rfl⟩) λr g o=>?_
 induction r with
 |error e=>exact o
 |ok v=>
  induction v with
  |ret j=>
   obtain⟨rfl,rfl⟩:=o
   have x:wm {s with heap:=s.heap.push (kO (gy w))} (ao s.heap.objs.size) "set" :=⟨_,(dQ _ rfl:(s.heap.push (kO (gy w))).get? s.heap.objs.size=aa (kO (gy w))),rfl⟩
   have y:=p7.init.lookup
   have z:=p7.init.bind (ao s.heap.objs.size)
   repeat (any_goals (first|assumption|wp_step))
   refine codeAny_mono (IG p7.init.plain PySem.F.entry_set_init (check_set_init_1 x h)) λk b d=>?_
   induction k with
   |error e=>exact d
   |ok i=>
    induction i with
    |ret r=>
     refine zX _ d λJ=>?_
     repeat (any_goals (first|assumption|wp_step))
    |_=>exact d.elim
  |_=>exact o.elim
end
noncomputable def gQ(a:Array Nat):Prop:=∀i j,i<j->j<a.size->a.getD i 0<a.getD j 0
theorem getD_some{a:Array Nat}(h:i<a.size):a[i]?=W (a.getD i 0):=by
 rwa[getElem?_pos a i h];simp[tF,h]
theorem abr(u:gQ a)(b:Nat):∀(lo d:Nat),d-lo<=b->lo<=d->d<=a.size->(∀k,k<lo->a.getD k 0<j)->(∀k,d<=k->k<a.size->j<=a.getD k 0) ->
 tL a j b lo d<=a.size/\(∀k,k<tL a j b lo d->a.getD k 0<j)/\(∀k,tL a j b lo d<=k->k<a.size->j<=a.getD k 0):=by
 induction b with
 |zero=>
  intro lo d l n f o h
  have e:d=lo:=ku (Nat.le_of_sub_eq_zero (Nat.eq_zero_of_le_zero l)) n
  rw[e]at f h
  show⟨f,o,h⟩
 |succ b v=>
  intro lo d l n f o h
  rwa[show tL a j (b+1) lo d=if lo<d then if a.getD ((lo+d) / 2) j<j then tL a j b ((lo+d) / 2+1) d else tL a j b lo ((lo+d) / 2)else lo from rfl]
  by_cases c:lo<d
  .rwa [aJ c]
   have p:(lo+d) / 2<d:=Nat.div_lt_of_lt_mul (Nat.two_mul d▸CW c d)
   have r:lo<=(lo+d) / 2:=(IP Nat.two_pos).mpr (vE lo▸fh n lo)
   generalize (lo+d) / 2=m at p r
   have g:=bg p f
   rwa[show a.getD m j=a.getD m 0 by simp[tF,g]]
   by_cases i:a.getD m 0<j
   .rwa [aJ i]
    show v _ d (iL (bg (Nat.sub_lt_sub_left c (yV r)) l)) p f (λk s=>?_) h
    show(C2.mp s).elim (λq=>e9 (u k _ q g) i) λq=>q▸i
   .rwa [aL i]
    show v lo _ (iL (bg (Nat.sub_lt_sub_right r p) l)) r (eL g) o (λk s t=>?_)
    show(vG s).elim (λq=>P (i8.mp i) (eL (u _ k q t))) λq=>q▸i8.mp i
  .rwa [aL c]
   rw[ku (fi c) n]at f h
   show⟨f,o,h⟩
theorem uP(b:gQ a)(j:Nat):dz a j<=a.size/\(∀k,k<dz a j->a.getD k 0<j)/\(∀k,dz a j<=k->k<a.size->j<=a.getD k 0) :=
 abr b a.size 0 a.size (oj ..) (cQ _) (bG _) (λz h=>aF h (i7 _)) λz h g=>aF h (nu g)
theorem OD(b:gQ a)(c:i<a.size):dz a (a.getD i 0)=i:=by
 show a3 (uP b (a.getD i 0)) λf d e=>?_
 show ku (fi λq=>?_) (fi λq=>?_)
 .show aF (d i q) (cq _)
 .show aF (e _ (bG _) (e9 ‹_› ‹_›)) (nu (b _ _ q c))
theorem abt(c:gQ b)(d:i<b.size):dz b (b.getD i 0+1)=i+1:=by
 show a3 (uP c (b.getD i 0+1)) λf g h=>?_
 show ku (fi λq=>?_) (fi λq=>?_)
 .show aF (g (i+1) q) (C3 (c i (i+1) (dP _) (bg q f)))
 .have a:=h _ (bG _) (bg ‹_› ‹_›)
  rcases Nat.eq_or_lt_of_le (iL q)with e|e
  .rw [e]at a;show cq _ ‹_›
  .show aF (e9 (dP _) (bY a (c _ _ e d))) (cq _)
theorem abu(b:gQ a):dz a 0=0:=by
 show a3 (uP b 0) λd c f=>?_
 rcases Nat.eq_zero_or_pos (dz a 0)with e|e
 .show e
 .show aF (c 0 e) (i7 _)
theorem G7{t:fA}(b:gQ t.place)(h:t.slot j= jV):∀i,i<t.place.size->t.place.getD i 0≠j:=λi a e=>by
 have h:(if(t.place[dz t.place j]?==W j)=U then kE (dz t.place j)else if rq t.dummies j=U then .dummy else jV)= jV:=h
 rw[<-e,OD b a,getD_some a,aJ (beq_self_eq_true _)]at h
 show tG h
theorem Bi{t:fA}(h:t.slot j= kE i):t.place[i]?=W j/\i=dz t.place j:=by
 have h:(if(t.place[dz t.place j]?==W j)=U then kE (dz t.place j)else if rq t.dummies j=U then .dummy else jV)= kE i:=h
 by_cases c:(t.place[dz t.place j]?==W j)=U
 .rw [aJ c]at h
  have h:=Rp h
  show⟨by rwa[<-h];show bX.mp c,h.symm⟩
 .rw [aL c]at h
  by_cases c:rq t.dummies j=U
  .rw [aJ c]at h;show tG h
  .rw [aL c]at h;show tG h
theorem G8(g:p<=a.size)(k:Nat)(i:k<a.size+1):(jD a p x).getD k 0=if k<p then a.getD k 0 else if k=p then x else a.getD (k-1) 0:=by
 have e:∀(d:Array Nat) k,d.getD k 0=d.toList.getD k 0:=λd k=>Array.getD_eq_getD_getElem?.trans ((aI (·.getD 0) jf.symm).trans ja.symm)
 have f:(a.toList.take p).length=p:=Dw g
 rwa[e,e,e,vX]
 by_cases b:k<p
 .rwa [aJ b]
  simp only[ja]
  rwa[fB (ey ‹_› (gq ‹_›)),Dq b]
 .rwa [aL b]
  simp only[ja]
  rwa[mn (P (bC f) (fi b)),f]
  by_cases c:k=p
  .rwa [aJ c,c,jC];rfl
  .rwa [aL c]
   show dM (CX (oo (fi b) (kY c))) λm h=>?_
   rwa[h,sX,CY,Dh,zd]
   rfl
theorem Bj(c:p<=a.size):(jD a p x).size=a.size+1:=by
 rwa[<-jT,vX,cF,Dw c,fC,vL,jT]
 show aI (· +1) (vB c)
theorem abv(l:gQ c)(s:∀i,i<c.size->c.getD i 0≠j):gQ (jD c (dz c j) j):=λa b d m=>by
 show a3 (uP l j) λh q r=>?_
 rw[Bj h]at m
 rwa[G8 h a (e9 ‹_› ‹_›),G8 h b m]
 induction b using dS with
 |zero=>show aF d (i7 _)
 |succ b=>
 have f:=sZ m
 by_cases g:a<dz c j
 .rwa [aJ g]
  by_cases k:b+1<dz c j
  .rwa [aJ k];show l a _ d (bg k h)
  .rwa [aL k]
   by_cases n:b+1=dz c j
   .rwa [aJ n];show q a g
   .rwa [aL n]
    show bg (q a g) (r b (iL (oo (fi k) (kY n))) f)
 .rwa [aL g]
  have o:dz c j<=b:=P (fi g) (iL d)
  rwa[aL (C3 (gV o)),aL (λe:b+1=dz c j=>CZ b (P (bC e) o))]
  by_cases p:a=dz c j
  .rwa [aJ p];show oo (r b o f) (kY (s b f))
  .rwa [aL p]
   induction a using dS with
   |zero=>show aF (ku (cQ _) (fi g)) p
   |succ a=>show l a b (sZ d) f
structure TI (L:Bool) (t:fA) (n:Nat):Prop where
 fits:t.fits n=af
 rise:gQ t.place
 xE:t.dummies=#[]
 led:t.led=L
theorem G9(j:Nat):rq #[] j=Y:=by
 unfold rq;rfl
theorem abw(n:Nat):gQ (List.toArray (bE n)):=λi j a d=>by
 have b:j<n:=by simpa using d
 have c:i<n:=e9 ‹_› ‹_›
 simp[tF,c,b];show a
theorem TI.standIn{t:fA}(h:t.led=a)(n:Nat):TI a (t.standIn n) n :=
 ⟨SetTable.standIn_fits t n,by
  show gQ (Array.range n)
  have:=abw n
  rwa[show List.toArray (bE n)=Array.range n by apply p5.mp;simp]at this,rfl,h⟩
theorem TI.orStandIn{t:fA}(b:gQ t.place)(c:t.dummies=#[])(h:t.led=a):TI a (t.orStandIn n) n:=by
 unfold SetTable.orStandIn
 split
 .rename_i q;show⟨q,b,c,h⟩
 .show TI.standIn h n
theorem OE(t:fA)(f:Nat->Int)(h:Int)(a:Nat)(p:vY):rJ t f h (a+1) p=SetTable.Slot.casesOn (motive:=λz=>Option SetTable.Met) (t.slot p.j) (W (.empty p.j p.dummy)) (rJ t f h a (t.advance {p with dummy:=W p.j})) (λi=>if f i==h then W (wu p.j i (t.advance p))else rJ t f h a (t.advance p)):=![]
theorem abx(k:t.dummies=#[])(a:Nat):∀(p:vY){j:Nat}{b:Option Nat},p.dummy=N->rJ t f h a p=W (.empty j b)->b=N/\t.slot j= jV:=by
 induction a with
 |zero=>showλz z z z e=>nn e
 |succ a l=>
  intro p j b d e
  have g:(t.advance p).dummy=N:=by
   show(if p.more>0 then{p with j:=p.j+1,more:=p.more-1}else _:vY).dummy=N
   by_cases c:p.more>0
   .rwa [aJ c];show d
   .rwa [aL c];show d
  have e:=(OE ..).symm.trans e
  generalize q:t.slot p.j=m at e
  induction m with
  |empty=>
   have e:=Rq (L e)
   show⟨e.2.symm.trans d,e.1▸q⟩
  |dummy=>
   have q:(if(t.place[dz t.place p.j]?==W p.j)=U then kE (dz t.place p.j)else if rq t.dummies p.j=U then .dummy else jV)= .dummy:=q
   rw[k,G9,aL fe]at q
   by_cases c:(t.place[dz t.place p.j]?==W p.j)=U
   .rw [aJ c]at q;show tG q
   .rw [aL c]at q;show tG q
  |live i=>
   have e:(if(f i==h)=U then W (wu p.j i (t.advance p))else rJ t f h a (t.advance p))=_:=e
   by_cases c:(f i==h)=U
   .rw [aJ c]at e;show SetTable.Met.noConfusion (L e)
   .rw [aL c]at e;show l _ g e
theorem TI.put(T:TI a t n)(b:t.slot j= jV):gQ (t.put j).1.place/\(t.put j).1.dummies=#[]/\(t.put j).1.led=a:=by
 show⟨abv T.rise (G7 T.rise b),?_,T.led⟩
 show(if rq t.dummies j=U then _ else t.dummies)=#[]
 rwa[T.xE,G9];rfl
theorem aby{L:Bool}(T:TI L t a.size):TI L (layNew t a h x).2.1 (layNew t a h x).1.size:=by
 rwa[show layNew t a h x=yl (motive:=λz=>Array (Int×K)×fA×Bool×Bool) (t.freeSlot h) (a.push (h,x),t.standIn (a.size+1),Y,U) λp=>(jD a (t.put p.1).2 (h,x),(t.put p.1).1.orStandIn (jD a (t.put p.1).2 (h,x)).size,p.2, !(t.put p.1).1.fits (jD a (t.put p.1).2 (h,x)).size) by kernel_rfl]
 generalize q:t.freeSlot h=o
 induction o with
 |none=>
  show TI L (t.standIn (a.size+1)) (a.push (h,x)).size
  rwa[wg]
  show TI.standIn T.led _
 |some p=>
  delta SetTable.freeSlot at q
  generalize e:t.probe (λz=>h+1) h (t.probeStart h)=o at q
  induction o with
  |none=>show nn q
  |some m=>
   induction m with
   |candidate=>show nn q
   |empty j i=>
    show cR (abx T.xE _ _ rfl e) λd b=>?_
    have q:p=(j,Y):=(aH q).symm.trans (![d])
    rwa[q]
    show a3 (T.put b) λc f g=>TI.orStandIn c f g
theorem abz:∀(l:List (Nat×Nat)),(l.map (·.1)).Pairwise (· < ·)->gQ (l.map (·.1)).toArray:=λl h i j c g=>by
 have a:j<(l.map (·.1)).length:=by assumption
 have b:i<(l.map (·.1)).length:=e9 ‹_› ‹_›
 have:=vP.mp h i j b a c
 have e:∀k (f:k<(l.map (·.1)).length),(l.map (·.1)).toArray.getD k 0=(l.map (·.1))[k]:=λk f=>by
  have d:k<(l.map (·.1)).toArray.size:=by assumption
  simp only[tF,d,dif_pos]
  rfl
 rwa[e i b,e j a];show this
theorem abA(f:Nat->Option Nat):∀n,(((bE n).filterMap λj=>(f j).map (j, ·)).map (·.1)).Pairwise (· < ·):=λn=>by
 rwa[List.map_filterMap]
 have e:(bE n).filterMap (λx=>gj (λx=>x.1) (gj (λy=>(x,y)) (f x)))=(bE n).filter λx=>(f x).isSome:=by
  rwa[<-List.filterMap_eq_filter]
  congr 1
  funext x
  generalize q:f x=a;induction a<;>simp[Option.guard,q]
 rwa[e]
 show(List.pairwise_lt_range).filter _
theorem abB(T:TI a t b.size):TI a (qY t b wanted).2.1 (qY t b wanted).1.size:=by
 unfold qY
 split
 .rename_i f e q
  dsimp only
  split
  .rename_i c
   simp only[eu]at c
   unfold SetTable.relaid SetTable.laid at q
   simp only[Option.bind_eq_bind,Option.pure_def,e8,tc,vV]at q
   obtain⟨d,_,rfl,_⟩:=q
   show⟨c.2,abz _ (abA (λj=>d.getD j N) _),rfl,T.led⟩
  .show TI.standIn T.led _
 .show TI.standIn T.led _
noncomputable def gg(ds:List D)(d:D):List D:=if d∈ds then ds else ds++[d]
noncomputable def n6(a:Array (Int×K))(b:Nat)(t:fA):cC:={cls:= aZ "set",dict:=N,data:=.set a b t}
structure jO (w:aU) (L:Bool) (g:G) (h:b0) (S:aR) (X:Array (Int×az)->fA->List D->Prop) (ds:List D):Prop where
 ex:∃es ep t ds',h.get? S=aa (n6 es ep t)/\TI L t es.size/\X es t ds'/\ds'.Perm ds/\RL w g h (es.toList.map (·.2)) ds'
section
variable{w:aU}{L:Bool}{A:bK}{E:az->aA->Prop}{g:G}{s:aA}{S:aR}{X:Array (Int×az)->fA->List D->Prop}
theorem jO.frame{fr:List aR}(Z:jO w L g h S X d)(f:∀a∈fr,a∈g.Z)(i:S∉fr)(k:∀b o,b∉fr->h.get? b=W o->c.get? b=W o):jO w L g c S X d:=by
 show z3 Z.ex λj l t e m n p q r=>?_
 show⟨j,l,t,e,k _ _ i m,n,p,q,r.cA k f⟩
theorem Ha{h:b0}(c:h.get? S=W (n6 b a t)):(h.update S (zJ es' t')).get? S=W (n6 es' (a+1) t'):=by
 have:=oz (zJ es' t') c (![putSet_of es' t' rfl])
 rw[putSet_of es' t' rfl]at this;show this
theorem Hc(d:S∈g.Z)(f:RL w g h a c):RL w g (h.update S (zJ es' t')) a c :=
 f.cA (fr:=[S]) (λb o i e=>(vW _ _ (λq=>i (by simp[q]))).trans e) (by simpa using d)
section
variable{K:Type}[DecidableEq K]{knd:KeyKind pw w K}{tod:K->D}
theorem OF{k a:Array (Int×az)}{z:Nat}{t c:fA}{ds' ds:List D}{B:Bool}{R:Option Bool->H->Prop}{o:Bool->eT Unit}(Q:∀(b:Bool)(e:H)(p:Unit->H->Prop),p () e->V (Z pw w) A (o b) p E e)
(q:S∈g.Z)(r:s.heap.get? S=aa (n6 k z t))(P:a.size<4096)(u:TI L c a.size)(v:qZ knd a.toList)(x:ds'.Perm ds)(H:RL w g s.heap (a.toList.map (·.2)) ds')
(y:∀l,gp S s.heap l->jO w L g l S (λk Y Y=>qZ knd k.toList) ds->R (aa af) {s with heap:=l}):
 aj (ar pw w) A (do
  storeSet S a c
  if(!B&&c.tooFull)=af then do
   o (qY c a (rr a.size)).2.2
   storeSet S (qY c a (rr a.size)).1 (qY c a (rr a.size)).2.1
   bx (aa af)
   else bx (aa af)) R E s:=by
 have U:fL=2^24:=rfl
 show ai (CQ r rfl ?_ (by lia))
 have f:=Ha (es':=a) (t':=c) r
 have h:=iu s.heap S (zJ a c)
 have i:=Hc (es':=a) (t':=c) q H
 split
 .have d:=relayAll_perm c a (rr a.size)
  have m:=abB (wanted:=rr a.size) u
  generalize qY c a (rr a.size)=I at d m |-
  obtain⟨j,J,V⟩:=I
  dsimp only at d m |-
  have W:j.size=a.size:=![<-jT,d.length_eq,jT]
  show ai (Q _ _ _ ?_)
  show ai (CQ f rfl ?_ (by lia))
  show aV (RL.perm (d.symm.map (·.2)) i) λn M N=>?_
  show aD (y _ (h.trans (iu _ S _)) ⟨j,_,J,n,Ha f,m,v.perm d,N.trans x,Hc q M⟩)
 .show aD (y _ h ⟨a,_,c,ds',f,u,v,x,i⟩)
theorem abC{k:K}(u:∀h v k,R w g h v (tod k)->knd.is k v=U/\v.scannable=U){h:b0}{l:List (Int×az)}{ds:List D}(r:RL w g h (l.map (·.2)) ds)(f:∀d∈ds,∃k,d=tod k)(m:∀a b,tod a=tod b->a=b):
 (∃j,l.findIdx? (λe=>knd.is k e.2)=W j)↔tod k∈ds:=by
 induction l generalizing ds with
 |nil=>
  induction ds using bH with
  |nil=>show⟨λh=>h.elim λz h=>nn h,λh=>(aF h bc)⟩
  |cons=>show nH r λz z e z=>?_;show KN e
 |cons e l x=>
  show oK r.pq λd ds n a b=>?_;obtain rfl:=n
  obtain⟨t,rfl⟩:=f d a7
  have c:knd.is k e.2=I (k=t):=KeyKind.is_eq_decide (u _ _ _ a).1 k
  rwa[rg,c]
  by_cases q:k=t
  .clear a r c f;subst q
   rwa[dA rfl,aJ rfl]
   show⟨λz=>a7,λz=>⟨0,rfl⟩⟩
  .rwa [ef q,aL fe,bB,or_iff_right λe=>q (m _ _ e),<-x b λd o=>f d (bq _ o)]
   show⟨λ⟨j,p⟩=>let⟨i,m,_⟩:=fX p;⟨i,m⟩,λ⟨j,p⟩=>⟨j+1,![p]⟩⟩
theorem OG{ds:List D}{v:az}{k:K}{Q:Bool->H->Prop}(V:∀h v k,R w g h v (tod k)->knd.is k v=U/\v.scannable=U)(hi:∀a b,tod a=tod b->a=b)
(hS:S∈g.Z)(Z:jO w L g s.heap S (λi X X=>qZ knd i.toList) ds)(M:∀d∈ds,∃k,d=tod k)(rv:R w g s.heap v (tod k))(N:ds.length+1<4096)
(I:∀r b,gp S s.heap r->jO w L g r S (λi X X=>qZ knd i.toList) (gg ds (tod k))->Q b {s with heap:=r,toks:=s.toks+1}):aj (ar pw w) A (vx S v) Q E s:=by
 show cR (V _ _ _ rv) λl u=>?_
 show cU (ai (knd.pyHash l ?_))
 show z3 Z.ex λi ep t ds' ho T y J rl=>?_
 have OC:i.size=ds.length:=by have:=rl.length;rw[bN,jT,J.length_eq]at this;show this
 have hb:i.size<scanBound:=by show i.size<4096;lia
 have m:(∃j,i.toList.findIdx? (λe=>knd.is k e.2)=aa j)↔tod k∈ds:=by
  rwa[abC V rl (λd hd=>M d (J.mem_iff.mp hd)) hi,J.mem_iff]
 have W:s={s with heap:=s.heap}:=by clear Z ho rv I rl;induction s;rfl
 show aj (ar pw w) A _ Q E {s with toks:=s.toks+1}
 show cU (ai (mf ho rfl T.fits ?_))
 dsimp only
 rwa[byScan_of u hb y]
 unfold setAddByScan
 show ai ?_
 show ai (iJ ?_)
 show ai (wpAny_setScan_of l ho rfl T.fits y ?_)
 generalize Y:ze (λe=>knd.is k e.2) i.toList=P;induction P with
 |some j=>
  show aD (aD ?_)
  show I s.heap _ (zA S s.heap) ?_
  rwa[gg,aJ (m.mp ⟨j,Y⟩)];show Z
 |none=>
  have hm:tod k∉ds:=λq=>by obtain⟨j,hj⟩:=m.mpr q;rw[Y]at hj;cases hj
  have U:∀(b:Bool){f:aA}{H:Unit->aA->Prop},H () f->aj (ar pw w) A (match b with|true=>rule "set.scan.the-table-gave-way" |false=>bx ()) H E f :=
   λb f H n=>by induction b<;>first|show aD n|show iJ n
  have c:=layNew_perm t i (knd.hash k) v
  have o:=aby (h:=knd.hash k) (x:=v) T
  generalize layNew t i (knd.hash k) v=Ly at c o |-
  obtain⟨OH,t1,wd,gv⟩:=Ly
  dsimp only at c o |-
  rw[tD]at c
  have p:qZ knd OH.toList:=(y.push l u).perm c
  have hz1:OH.size=i.size+1:=![<-jT,c.length_eq,cF,jT]
  have Ge:RL w g s.heap ((i.toList++[(knd.hash k,v)]).map (·.2)) (ds'++[tod k]):=by rwa[gH];show rl.append (.cons rv .nil)
  show aV (RL.perm (c.symm.map (·.2)) Ge) λz r1 p1=>?_
  have pe:z.Perm (gg ds (tod k)):=by rwa[gg,aL hm];show p1.trans (J.append_right _)
  show ai (U _ ?_)
  split
  .show ai ?_
   rwa[hashByValue_scannable 8 u]
   show aD ?_
   show OF (g:=g) (L:=L) (ds':=z) (ds:=gg ds (tod k)) (knd:=knd) (s:={s with toks:=s.toks+1}) ?_ hS ho (by lia) ?_ p pe r1 λr B hZ=>aD (I r _ B hZ)
   .intro b f H n;induction b<;>first|show aD n|show iJ n
   .split
    .show o
    .show ⟨SetTable.fits_plain_off o.fits,o.rise,o.xE,o.led⟩
  .show ai (aD ?_)
   show OF (g:=g) (L:=L) (ds':=z) (ds:=gg ds (tod k)) (knd:=knd) (s:={s with toks:=s.toks+1}) ?_ hS ho (by lia) o p pe r1 λr B hZ=>aD (I r _ B hZ)
   intro b f H n;induction b<;>first|show aD n|show iJ n
end
end
noncomputable def pk(h:Int):Nat->Nat×Nat
 |0=>(zt h%8,zt h)
 |m+1=>JK 7 (pk h m).1 (pk h m).2
def pr(h:Int)(m:Nat):vY:=⟨(pk h m).1,0,(pk h m).1,(pk h m).2,N⟩
theorem abD(h:Int):∀m,(pk h m).1<8
 |0=>y0 _ (dm _)
 |m+1=>by show(_%(7+1))<8;show y0 _ (dm _)
theorem OI(i:Nat):JL 7 i=i:=by unfold JL;rwa[aL (nu (bg (aQ rfl) (br 9 i)))]
theorem abE{t:fA}(a:t.mask=7)(h:Int):t.probeStart h=pr h 0:=by
 delta SetTable.probeStart pr
 rwa[a]
 dsimp only
 rwa[OI,jC]
 rfl
theorem OJ{t:fA}(a:t.mask=7)(h:Int)(m:Nat):t.advance (pr h m)=pr h (m+1):=by
 delta SetTable.advance pr
 rwa[a]
 show SetTable.Probe.mk (JK 7 (pk h m).1 (pk h m).2).1 _ _ _ _=_
 rwa[OI,jC]
 rfl
theorem OK(h:Int):∀m,(pk h m).2<=zt h / 32^m
 |0=>bC (Nat.div_one _).symm
 |m+1=>by
  show(pk h m).2 / 32<=_
  rwa[s9,<-Nat.div_div_eq_div_mul]
  show Nat.div_le_div_right (OK h m)
theorem abF(h:Int):zt h<2^64:=(zE (DM _ (aQ rfl))).mpr (DN _ (aQ rfl))
theorem abG(h:Int)(m:Nat)(a:13<=m):(pk h m).2=0 :=
 Nat.eq_zero_of_le_zero (P (OK h m) (bC (Nat.div_eq_of_lt (bg (abF h) (P (aQ rfl:2^64<=32^13) (pL (aQ rfl) a))))))
theorem abH:∀a:Fin 8,∀b:Fin 8,∃q:Fin 8,(Nat.rec (a:Nat) (λz i=>(i*5+1)%8) (q:Nat):Nat)=b:=aQ rfl
theorem OL(h:Int):∀q,(pk h (13+q)).1=(Nat.rec (pk h 13).1 (λz i=>(i*5+1)%8) q:Nat)
 |0=>rfl
 |q+1=>by
  show((pk h (13+q)).1*5+1+(pk h (13+q)).2 / 32)%(7+1)=_
  rwa[abG h (13+q) (ew ..),OL h q]
theorem abI(h:Int)(a:j<8):∃m,m<=20/\(pk h m).1=j:=by
 show dM (abH ⟨(pk h 13).1,abD h 13⟩ ⟨j,a⟩) λq b=>?_
 show⟨13+q,fh (iL q.2) 13,by rwa[OL];show b⟩
theorem slot_of{t:fA}(d:gQ t.place)(e:t.dummies=#[])(j:Nat):(t.slot j= jV/\∀i,i<t.place.size->t.place.getD i 0≠j)\/∃i,i<t.place.size/\t.slot j= kE i/\t.place.getD i 0=j:=by
 generalize q:t.slot j=a;induction a with
 |empty=>show aY ⟨rfl,G7 d q⟩
 |dummy=>
  unfold SetTable.slot at q
  dsimp only at q
  rw[e,G9]at q
  split at q<;>trivial
 |live i=>
  have b:=(Bi q).1
  have c:i<t.place.size:=(rH.mp b).1
  rw[getD_some c]at b
  show aW ⟨i,c,rfl,L b⟩
theorem abJ(n:t.mask=7)(s:gQ t.place)(u:t.dummies=#[])(d:Nat):∀k:Nat,(∃m,k<=m/\m<k+d/\t.slot (pk h m).1= jV) ->
 ∃m,k<=m/\(∀g,k<=g->g<m->∃i,t.slot (pk h g).1= kE i/\f i≠h) /\
  ((t.slot (pk h m).1= jV/\rJ t f h d (pr h k)=W (.empty (pk h m).1 N))\/∃i,t.slot (pk h m).1= kE i/\f i=h/\rJ t f h d (pr h k)=W (wu (pk h m).1 i (pr h (m+1)))):=by
 induction d with
 |zero=>showλk q=>eA q λm j l Z=>aF l (C3 j)
 |succ d v=>
  intro k q
  show eA q λm j l o=>?_
  have E:=OE t f h d (pr h k)
  show(slot_of s u (pk h k).1).elim (λq=>⟨k,bG _,λg a b=>aF a (nu b),aY ⟨q.1,E.trans ?_⟩⟩) λq=>eA q λi Z q Z=>?_
  .rwa [show t.slot (pr h k).j= jV from q.1];rfl
  .rw [show t.slot (pr h k).j= kE i from q]at E
   by_cases c:f i=h
   .show ⟨k,bG _,λg a b=>aF a (nu b),aW ⟨i,q,c,E.trans ((aJ (bX.mpr c)).trans (aI (λp=>W (wu _ i p)) (OJ n h k)))⟩⟩
   .have E:=E.trans ((aL (mt bX.mp c)).trans (aI _ (OJ n h k)))
    show eA (v (k+1) ⟨m,oo j λe=>tG (q.symm.trans ((aI _ (aI _ (aI _ e))).trans o)),ey l (kT k d).symm,o⟩) λw x y z=>?_
    show⟨w,eL x,λg A B=>?_,by rwa[E];show z⟩
    by_cases r:g=k
    .rwa [r];show⟨i,q,c⟩
    .show y g (oo A (kY r)) B
theorem Bk{b:Array Nat} :j∈b.toList↔∃i,i<b.size/\b.getD i 0=j:=by
 rwa[Jp]
 constructor
 .rintro ⟨i,c,e⟩
  have a:i<b.size:=by simpa using c
  show⟨i,a,by rwa[<-e];simp[tF,a]⟩
 .rintro ⟨i,c,e⟩
  show⟨i,by assumption,by rwa[<-e];simp[tF,c]⟩
theorem abK{t:fA}(c:gQ t.place)(d:t.dummies=#[])(l:t.place.size<=7)(h:Int):∃m,m<=20/\t.slot (pk h m).1= jV:=by
 have:∃j,j<8/\t.slot j= jV:=by
  show Classical.byContradiction λq=>?_
  have:=oJ (K:=bE 8) (S:=t.place.toList) Dx λj a=>by
   have b:j<8:=by simpa using a
   rcases slot_of c d j with⟨e,z⟩|⟨i,f,z,e⟩
   .show aF ⟨j,b,e⟩ q
   .show Bk.mpr ⟨i,f,e⟩
  simp at this;show aF ‹_› (i8.mpr ‹_›)
 show aV (this) λj a e=>?_
 show aV (abI h a) λm g k=>?_
 show⟨m,g,by rwa[k];show e⟩
def Laid(a:Nat->Int)(t:fA):Prop:=∀i,i<t.place.size->∃m,(pk (a i) m).1=t.place.getD i 0/\∀b,b<m->(pk (a i) b).1∈t.place.toList
theorem abL :j∈(jD b p x).toList↔j=x\/j∈b.toList:=by
 have:=(SetTable.insertAt_perm b p x).mem_iff (a:=j)
 rwa[this,tD,d9,bI,or_comm]
theorem abM(n:Laid c t)(r:gQ t.place)(s:∃m,(pk h m).1=j/\∀e,e<m->(pk h e).1∈t.place.toList)
(l:∀i,hs' i=if i<dz t.place j then c i else if i=dz t.place j then h else c (i-1)):Laid hs' (t.put j).1:=by
 show a3 (uP r j) λo z z=>?_
 intro i p
 have f:i<t.place.size+1:=by
  have:(t.put j).1.place=jD t.place (dz t.place j) j:=rfl
  rw[this,Bj o]at p;show p
 rwa[(rfl:(t.put j).1.place=jD t.place (dz t.place j) j),G8 o i f,l i]
 have d:∀x,x∈t.place.toList->x∈(jD t.place (dz t.place j) j).toList:=λx u=>abL.mpr (aW u)
 by_cases g:i<dz t.place j
 .rwa [aJ g,aJ g]
  show aV (n i (bg ‹_› ‹_›)) λm a b=>?_
  show⟨m,a,λe q=>d _ (b e q)⟩
 .rwa [aL g,aL g]
  by_cases k:i=dz t.place j
  .rwa [aJ k,aJ k]
   show aV (s) λm a b=>?_
   show⟨m,a,λe q=>d _ (b e q)⟩
  .rwa [aL k,aL k]
   show aV (n (i-1) (Nat.sub_lt_right_of_lt_add (bY (cQ _) (oo (fi g) (kY k))) f)) λm a b=>?_
   show⟨m,a,λe q=>d _ (b e q)⟩
section
variable{w:aU}{g g':G}{A:bK}{E:az->aA->Prop}
theorem R.abN:(∀d:D,d.bF=U->∀{n:Nat}{v:K}{s:H}{Q:Bool->H->Prop},R w g s.heap v d->d.kd<=n->Q Y s->V (Z pw w) A (yQ n v) Q E s) /\
 ∀c:List D,D.bT c=U->∀{n:Nat} {e:List K} {s:H} {Q:(Option Bool×PUnit)->H->Prop},RL w g s.heap e c->D.du c<=n->Q (N,()) s ->
 V (Z pw w) A (lJ e (N,iS) λy z=>do
  if <-yQ n y then bx (tA (W U,iS))else bx (iR (N,iS))) Q E s:=by
 show D.nJ ?_ ?_ ?_ ?_ ?_ ?_
 .rintro n z s Q rfl z h;induction n using dS<;>show aD h
 .rintro i n z s Q ⟨t,rfl⟩ z h;induction n using dS<;>show aD h
 .rintro i n z s Q ⟨t,rfl,z⟩ z h;induction n using dS<;>show aD h
 .rintro l z k n z s Q ⟨a,e,m,rfl,f,z,z,o⟩ b h
  have b:D.du l+1<=n:=b
  induction n using dS with
  |zero=>show aF b (lA _)
  |succ n=>
   delta yQ
   show V (Z pw w) A (oi (M a)>>=_) Q E s
   show J (nf (⟨_,f,rfl⟩:s.TypeIs (M a) "tuple") ?_)
   show V (Z pw w) A (bx U>>=_) Q E s
   show J (aD ?_)
   show J (J (qS f (aD ?_)))
   show V (Z pw w) A (_>>=_) Q E s
   show J ?_
   rwa[<-zF]
   set_option smartUnfolding false in
   show k o (lB b) ?_
   show aD h
 .rintro n z s Q rfl z h;rwa[td];show aD h
 .rintro d l z z i j n z s Q ⟨v,r,rfl,p,q⟩ b h
  rwa[ny]
  show J (J (i p (P (nr _ _) b) ?_))
  show aD (j q (P (nt _ _) b) h)
theorem R.OM(r:R w g s.heap v d)(k:d.bF=U):d.kd<=n->a Y s->V (Z pw w) A (yQ n v) a E s:=R.abN.1 d k r
theorem R.abO:(∀d:D,d.bF=U->∀(n:Nat){v:K}{s:H}{Q:Bool->H->Prop},R w g s.heap v d->(∀b,Q b s)->V (Z pw w) A (CR n v) Q E s) /\
 ∀e:List D,D.bT e=U->∀(n:Nat) {c:List K} {s:H} {Q:(Option Bool×PUnit)->H->Prop},RL w g s.heap c e->(∀r,r=(N,iS)\/r=(W Y,iS)->Q r s) ->
 V (Z pw w) A (lJ c (N,iS) λy z=>do
  if !(<-CR n y)then bx (tA (W Y,iS))else bx (iR (N,iS))) Q E s:=by
 show D.nJ ?_ ?_ ?_ ?_ ?_ ?_
 .rintro n z s Q rfl h;induction n using dS<;>show aD (h _)
 .rintro i n z s Q ⟨t,rfl⟩ h;induction n using dS<;>show aD (h _)
 .rintro i n z s Q ⟨t,rfl,z⟩ h;induction n using dS<;>show aD (h _)
 .rintro l z k n z s Q ⟨a,c,m,rfl,f,z,z,o⟩ h
  induction n using dS with
  |zero=>show aD (h _)
  |succ n=>
   show J (pF (⟨_,f,rfl⟩:s.TypeIs (M a) "tuple") JV.lookup ?_)
   show V (Z pw w) A (vy (M a)>>=_) Q E s
   show J (J (qS f (aD ?_)))
   show J ?_
   rwa[qP,<-zF]
   show k n o λr p=>by rcases p with rfl|rfl<;>show aD (h _)
 .rintro n z s Q rfl h;rwa[td];show aD (h _ (aY rfl))
 .rintro d l z z i j n z s Q ⟨v,r,rfl,q,u⟩ h
  rwa[ny]
  show J (J (i n q λb=>?_))
  induction b with
  |false=>rwa[Iw,aJ rfl];show aD (aD (h _ (aW rfl)))
  |true=>rwa[ym,aL fe];show aD (j n u h)
theorem R.hbv(n:Nat)(r:R w g s.heap v d)(k:d.bF=U):(∀b,a b s)->V (Z pw w) A (CR n v) a E s:=R.abO.1 d k n r
theorem abP(f:R w g s.heap x d)(l:d.bF=U)(m:d.kd<=7):∀{b:List K}{c:List D}{Q:Bool->H->Prop},RL w g' s.heap b c->D.bT c=U->(∀e∈c,e.kd<=7)->Q Y s ->
 V (ar pw w) A (CT x b) Q E s:=λ{b c Q} i k o h=>by
 delta CT
 show J ?_
 show ed (?_:V (ar pw w) A _ (λr p=>r=(N,iS)/\p=s) E s) (λr p t=>?_) λZ Z e=>e
 .induction b generalizing c with
  |nil=>rwa[td];show aD ⟨rfl,rfl⟩
  |cons y b u=>
   show oK i.pq λe B j a r=>?_;clear i;obtain rfl:=j
   .have k:=au k
    rwa[ny]
    have rest:=u r k.2 λe v=>o e (bq _ v)
    have q:=o e (a7 ..)
    show J ?_
    show V _ _ (if(_||yR x&&yR y)=U then _ else _) _ _ _
    generalize (_||yR x&&yR y)=z
    induction z with
    |true=>rwa[aJ rfl];show aD rest
    |false=>
     show J (R.quiet (n:=8) f l (gV m) ?_)
     show J (R.quiet (n:=8) a k.1 (gV q) ?_)
     show J (R.OM (n:=8) f l (gV m) ?_)
     show J (R.OM (n:=8) a k.1 (gV q) ?_)
     show aD rest
 .clear f i;obtain⟨rfl,rfl⟩:=t
  show aD h
end
noncomputable def uQ(a:Array (Int×K))(i:Nat):Int:=(a[i]?.map (·.1)).getD 0
structure XT (w:aU) (es:Array (Int×az)) (t:fA) (ds:List D):Prop where
 mask:t.mask=7
 small:es.size<=4
 laid:Laid (uQ es) t
 hash:es.toList.map (·.1)=ds.map (cj w)
 bF:D.bT ds=af
 kd:∀d∈ds,d.kd<=7
 kk:∀d∈ds,d.kk=2
theorem ON{w:aU}{a:Array (Int×K)}{b:List D}(h:a.toList.map (·.1)=b.map (cj w)){i:Nat}{d:D}(c:b[i]?=W d):uQ a i=cj w d:=by
 have:(a.toList.map (·.1))[i]?=W (cj w d):=![h,dy,c]
 rw[dy,jf]at this
 unfold uQ
 rwa[this];rfl
section
variable{w:aU}{L:Bool}{A:bK}{E:az->aA->Prop}{g:G}{s:aA}{S:aR}
theorem abQ{t:fA}(b:gQ t.place)(h:t.slot j= kE i)(c:a<t.place.size)(e:t.place.getD a 0=j):a=i:=by
 rwa[(Bi h).2,<-e,OD b c]
theorem abR{t:fA}(h:t.slot j= kE i):j∈t.place.toList:=by
 have a:=(Bi h).1
 have b:i<t.place.size:=(rH.mp a).1
 rw[getD_some b]at a
 show Bk.mpr ⟨i,b,aH a⟩
theorem OO{t:fA}(a:gQ t.place)(h:t.slot j= jV):j∉t.place.toList:=λq=>by
 show aV (Bk.mp q) λi b e=>?_
 show G7 a h i b e
theorem RL.sub{h:b0}{p:Int×K->Bool}{l:List (Int×K)}{ds:List D}(r:RL w g h (l.map (·.2)) ds):∃c,RL w g h ((l.filter p).map (·.2)) c/\∀d∈c,d∈ds:=by
 induction l generalizing ds with
 |nil=>show⟨[],rfl,(λz h=>aF h bc)⟩
 |cons e l k=>
  show my ds r.pq λd m a b=>?_
  show aV (k b) λc i j=>?_
  by_cases q:p e=U
  .rwa [List.filter_cons_of_pos q]
   show⟨d::c,.cons a i,λx f=>(bB.mp f).elim (λe=>e▸a7) λf=>bq _ (j x f)⟩
  .rwa [List.filter_cons_of_neg q]
   show⟨c,i,λd f=>bq _ (j d f)⟩
theorem OP(r:R w g h v d)(k:d.kk=2):∃a,v= M a:=by show dM (Lg k) λl b=>?_;clear k;obtain rfl:=b;show wz r λa z z e z=>?_;show⟨a,e⟩
theorem abS{X:eT Bool}{Z R:eT a}{Q:a->H->Prop}(f:V (ar pw w) A X (λb h=>b=Y/\s=h) E s)(d:V (ar pw w) A R Q E s):V (ar pw w) A (if(!c)=U then X>>=λb=>if b=U then Z else R else R) Q E s:=by
 show wpAny_ite_split (λz=>J (ed f ?_ λz z e=>e)) λz=>d
 rintro z z ⟨rfl,rfl⟩
 show d
theorem abT{u:Array (Int×K)}{ep:Nat}{t:fA}{x:List D}{v:K}{d:D}{Q:SetFound->H->Prop}(hu:A.units+200<cv)(ho:s.heap.get? S=aa (n6 u ep t))(T:TI L t u.size)(X:XT w u t x)(W:RL w g s.heap (u.toList.map (·.2)) x)
(rv:R w g s.heap v d)(kd:d.bF=af)(dd:d.kd<=7)(Y:d∈x->Q (.there ae) s)
(abU:d∉x->∀m,t.slot (pk (cj w d) m).1= jV->(∀j,j<m->(pk (cj w d) j).1∈t.place.toList)->Q (.free (pk (cj w d) m).1 ah) s):
 ∀(n k:Nat)(l:Option vY),22<=n+k->l.getD (t.probeStart (cj w d))=pr (cj w d) k->(∀j,j<k->∃i,t.slot (pk (cj w d) j).1= kE i/\x[i]? ≠aa d) ->
  aj (ar pw w) A (setSearchFrom S v (cj w d) af n l) Q E s:=by
 have K:t.place.size=u.size:=by have:=T.fits;simp only[zu,eu,bX]at this;show this.1
 have hdl:x.length=u.size:=by have:=W.length;simp at this;show this.symm
 show bR (abK T.rise T.xE (by rwa[K];have:=X.small;show aC ‹_› (br ..)) (cj w d)) λM hm0 z=>?_
 intro n
 induction n with
 |zero=>
  intro k l Z G V
  obtain⟨i,hi,G⟩:=V M (by lia)
  rw[hi]at z;cases z
 |succ n ih=>
  intro k l Z GD V
  have hkm:k<=M:=fi λq=>by obtain⟨i,hi,G⟩:=V M q;rw[hi]at z;cases z
  show k0 (abJ X.mask T.rise T.xE (f:=uQ u) (h:=cj w d) (10*SetTable.turns t.mask) k ⟨M,hkm,by rwa[X.mask];show M<k+220;lia,z⟩) λm agD mT N=>?_
  have B:∀j,k<=j->j<m->∃i,t.slot (pk (cj w d) j).1= kE i/\x[i]? ≠aa d:=λj a b=>by
   show aV (mT j a b) λi h1 h2=>?_
   show⟨i,h1,λq=>h2 (ON X.hash q)⟩
  have all:∀j,j<m->∃i,t.slot (pk (cj w d) j).1= kE i/\x[i]? ≠aa d:=λj b=>by
   rcases yZ j k with q|q
   .show V j q
   .show B j q b
  show ai (mf ho rfl T.fits (ni (ef (show¬t.gaveWay=af by unfold SetTable.gaveWay;rwa[X.mask];decide)) ?_))
  generalize hp:SetTable.probe t _ (cj w d) _=r
  rw[GD]at hp
  rcases N with⟨he,hg⟩|⟨i,hi,hf,hg⟩
  .obtain rfl:r=aa (.empty (pk (cj w d) m).1 ae):=hp.symm.trans hg
   have abV:d∉x:=λq=>by
    obtain⟨i,hil,e⟩:=Jp.mp q
    have hi:x[i]?=aa d:=![dn hil,e]
    show aV (X.laid i (by lia)) λmi xF hb=>?_
    rw[ON X.hash hi]at xF hb
    rcases yZ mi m with c|c
    .show aV (all mi c) λi' h1 h2=>?_
     revert h2;show iw (abQ T.rise h1 (by lia:i<t.place.size) xF.symm) λh2=>?_
     show h2 hi
    .rcases Nat.eq_or_lt_of_le c with c|c
     .clear hb;subst c
      show OO T.rise he (Bk.mpr ⟨i,by lia,xF.symm⟩)
     .show OO T.rise he (hb m c)
   show aD (abU abV m he λj b=>by show bR (all j b) λi h1 G=>?_;show abR h1)
  .obtain rfl:r=aa (wu (pk (cj w d) m).1 i (pr (cj w d) (m+1))):=hp.symm.trans hg
   have P:i<u.size:=by rwa[<-K];show(rH.mp (Bi hi).1).1
   obtain⟨H,I⟩:∃H,x[i]?=aa H:=⟨_,dn (ey ‹_› (gq ‹_›):i<x.length)⟩
   show aV (W.get I) λy hy ry=>?_
   have o:H∈x:=cN I
   have J:u[i]?=aa (u[i].1,y):=by
    rw[dy,jf,getElem?_pos u i P]at hy
    rwa[getElem?_pos u i P]
    clear ry;cases hy;rfl
   have U:aj (ar pw w) A (CT v ((u.filter (·.1==cj w d)).toList.map (·.2))) (λb s'=>b=ah/\s=s') E s:=by
    rwa[Array.toList_filter]
    show aV (RL.sub (p:=λe=>e.1==cj w d) W) λds2 r2 h2=>?_
    show abP rv kd dd r2 (xC λe he=>j6 X.bF e (h2 e he)) (λe he=>X.kd e (h2 e he)) ⟨rfl,rfl⟩
   show abS U ?_
   rwa[J]
   show ai (cU (R.Ae ry rv (j6 X.bF H o) kd (by have:=X.kd H o;lia) (ai (mf ho rfl T.fits ?_))))
   by_cases e:H=d
   .show wpAny_ite_true (![dA e]) (aD (Y (e▸o)))
   show ni (![ef e]) ?_
   rwa[show t.sameMemory t.moves t.mask=aa af by unfold SetTable.sameMemory;rwa[beq_self_eq_true];rfl]
   dsimp only
   rwa[aJ rfl,hi]
   dsimp only
   rwa[J]
   clear hy J;show gu y (OP ry (X.kk H o)) λa=>?_
   show ai (wpAny_isSame_ref_self (ai (aD (ni (ef λq=>e (bS q)) ?_))))
   show ih (m+1) _ (by lia) rfl λj b=>?_
   rcases yZ j m with c|c
   .show all j c
   .clear mT hp B all;obtain rfl:j=m:=by lia
    show⟨i,hi,λq=>e (aH (I.symm.trans q))⟩
end
section
variable{w:aU}{L:Bool}{A:bK}{E:az->aA->Prop}{g:G}{s:aA}{S:aR}
theorem getElem?_insertAt(h:p<=a.size)(k:Nat):(jD a p x)[k]?=if k<p then a[k]? else if k=p then W x else a[k-1]? :=by
 have e:(a.toList.take p).length=p:=by simp[vM];show yT ‹_›
 rwa[<-jf,<-jf,<-jf,vX]
 by_cases c:k<p
 .rwa [aJ c,fB (ey ‹_› (gq ‹_›)),Dq c]
 .rwa [aL c,mn (P (bC e) (fi c)),e]
  by_cases d:k=p
  .rwa [aJ d,d,jC];rfl
  .rwa [aL d]
   show dM (CX (oo (fi c) (kY d))) λm f=>?_
   rwa[f,sX,CY,Dh,zd]
   rfl
theorem abW(hu:A.units+300<cv)(hS:S∈g.Z)(Z:jO w L g s.heap S (XT w) f)(z:R w g s.heap v d)(kd:d.bF=U)(dd:d.kd<=7)(dk:d.kk=2)(h:(gg f d).length<=4)
(J:∀h' b tk,gp S s.heap h'->jO w L g h' S (XT w) (gg f d)->c b {s with heap:=h',toks:=tk}):aj (ar pw w) A (vx S v) c E s:=by
 unfold vx
 show cU (ai (R.hash z kd (u8 hu dd) ?_))
 show z3 Z.ex λp ep t j ho T X N P=>?_
 have OC:p.size=j.length:=by have:=P.length;simpa using this
 have o:R w g ({s with toks:=s.toks+d.draws}:aA).heap v d:=z
 have sz:fL=2^24:=rfl
 have hby:byScan v p=ah:=by
  clear o;show dM (OP z dk) λa gO=>?_;clear z;obtain rfl:=gO;rfl
 show cU (ai (mf ho rfl T.fits ?_))
 dsimp only
 rwa[hby]
 show ai ?_
 have hps:t.place.size=p.size:=by have:=T.fits;simp only[zu,eu,bX]at this;show this.1
 show abT (g:=g) (s:={s with toks:=s.toks+d.draws}) (by lia) ho T X P o kd dd (λGR=>?_) (λl m x hb=>?_) 100000 0 ae (br ..) (abE X.mask _) (by lia)
 .skip
  show aD (J s.heap _ _ (zA S s.heap) ?_)
  rwa[gg,aJ (N.mem_iff.mp GR)];show Z
 .skip
  have k:d∉f:=λq=>l (N.mem_iff.mpr q)
  rw[gg,aL k]at h
  have U:j.length+1<=4:=by simp at h;have:=N.length_eq;lia
  show a3 (uP T.rise (pk (cj w d) m).1) λV Q Q=>?_
  show ai (mf ho rfl T.fits ?_)
  dsimp only
  have ez:(jD p (dz t.place (pk (cj w d) m).1) (cj w d,v)).size=p.size+1:=Bj (aC ‹_› (bC ‹_›))
  have n:(t.put (pk (cj w d) m).1).2=dz t.place (pk (cj w d) m).1:=rfl
  have B:∀r,r.place=(t.put (pk (cj w d) m).1).1.place->r.dummies=(t.put (pk (cj w d) m).1).1.dummies->r.mask=t.mask->r.led=t.led ->
   aj (ar pw w) A (do
    storeSet S (jD p (t.put (pk (cj w d) m).1).2 (cj w d,v)) r
    if(!ah&&r.tooFull)=af then do setRelay S (rr (p.size+1));bx af else bx af) c E {s with toks:=s.toks+d.draws}:=λr I K e3 e4=>by
   rwa[n]
   show a3 (T.put x) λW M r3=>?_
   have ps:r.place.size=p.size+1:=by
    rwa[I]
    show(jD t.place (dz t.place (pk (cj w d) m).1) (pk (cj w d) m).1).size=_
    rwa[Bj V,hps]
   have u:r.fill=p.size+1:=by unfold SetTable.fill;rwa[ps,K,M];rfl
   show ai (CQ ho rfl ?_ (by lia))
   rwa[aL (by unfold SetTable.tooFull;rwa[u,e3,X.mask];simp;lia)]
   show aD (J _ _ _ (iu s.heap S _) ?_)
   have T':TI L r (p.size+1):=⟨by unfold zu;rwa[u,ps,e3,X.mask];simp;lia,by rwa[I];show W,by rwa[K];show M,by rwa[e4];show T.led⟩
   rwa[gg,aL k]
   have y:RL w g s.heap ((jD p (dz t.place (pk (cj w d) m).1) (cj w d,v)).toList.map (·.2)) (j.take (dz t.place (pk (cj w d) m).1)++d::j.drop (dz t.place (pk (cj w d) m).1)):=by
    rwa[vX,gH,ea,pN,vI]
    show(P.take _).append (.cons z (P.drop _))
   have H:∀e∈j.take (dz t.place (pk (cj w d) m).1)++d::j.drop (dz t.place (pk (cj w d) m).1),e=d\/e∈j:=λe x=>by
    rcases d9.mp x with q|q
    .show aW (zf q)
    .rcases bB.mp q with q|q
     .show aY q
     .show aW (List.mem_of_mem_drop q)
   show⟨_,_,r,_,Ha ho,by rwa[ez];show T',⟨e3.trans X.mask,by rwa[ez];lia,?_,?_,?_,?_,?_⟩,?_,Hc hS y⟩
   .have:=abM (hs':=uQ (jD p (dz t.place (pk (cj w d) m).1) (cj w d,v))) X.laid T.rise ⟨m,rfl,hb⟩ (λi=>by
     unfold uQ
     rwa[getElem?_insertAt (by lia)]
     by_cases Y:i<dz t.place (pk (cj w d) m).1
     .rwa [aJ Y,aJ Y]
     .rwa [aL Y,aL Y]
      by_cases c2:i=dz t.place (pk (cj w d) m).1
      .rwa [aJ c2,aJ c2];rfl
      .rwa [aL c2,aL c2])
    unfold Laid at this |-
    rwa[I];show this
   .rwa [vX,gH,ea,pN,vI,X.hash,gH,ea,pN,vI]
   .show xC λe x=>by
     clear dd o r3 y l I n z k J M dk h ez W V hb K;rcases H e x with rfl|q
     .show kd
     .show j6 X.bF e q
   .show λe x=>by
     clear o r3 y l I n z k J M dk h ez W V kd hb K;rcases H e x with rfl|q
     .show dd
     .show X.kd e q
   .show λe x=>by
     clear dd o r3 y l I n z k J M h ez W V kd hb K;rcases H e x with rfl|q
     .show dk
     .show X.kk e q
   .have:(j.take (dz t.place (pk (cj w d) m).1)++d::j.drop (dz t.place (pk (cj w d) m).1)).Perm (d::j):=by
     conv=>rhs;rw[<-q5 (dz t.place (pk (cj w d) m).1) j]
     show List.perm_middle
    show this.trans ((N.cons d).trans (List.perm_append_singleton d f).symm)
  split
  .show ai (R.hbv 8 o kd λb=>?_)
   induction b with
   |true=>show B _ rfl rfl rfl rfl
   |false=>show B _ rfl rfl rfl rfl
  .show ai (aD ?_)
   show B _ rfl rfl rfl rfl
end
def OQ(w:aU)(L:Bool)(g:G)(S:aR)(X:Array (Int×K)->fA->List D->Prop)(ok:List D->D->Prop)(A:bK):Prop :=
 ∀(E:K->H->Prop)(s:H)(a:List D)(v:K)(d:D)(Q:Bool->H->Prop),jO w L g s.heap S X a->R w g s.heap v d->ok a d ->
  (∀c b e,gp S s.heap c->jO w L g c S X (gg a d)->Q b {s with heap:=c,toks:=e})->V (Z pw w) A (vx S v) Q E s
theorem OS(l:List D)(d:D):dedup (l++[d])=gg (dedup l) d:=by unfold dedup;rwa[Jq];rfl
section
variable{w:aU}{L:Bool}{A:bK}{E:az->aA->Prop}{g:G}{s:aA}{S:aR}{X:Array (Int×az)->fA->List D->Prop}
theorem abX(ad:OQ w L g S X ok A.in1)(hh:A.handled=ae)(H:l≠c)(J:S≠c)(K:S≠l)(M:∀a∈[S,c],a∈g.Z)(N:∀i d,ds[i]?=aa d->ok (dedup (ds.take i)) d){R:km->aA->Prop}:
 ∀(k i:Nat)(s:aA),i+k=ds.length->s.heap.IsListIter c l i->s.heap.IsList l vs->RL w g s.heap vs.toList ds->jO w L g s.heap S X (dedup (ds.take i)) ->
  (∀p,Kept [S,c] s p->jO w L g p.heap S X (dedup ds)->R (fO (il aN)) p)->gm (ar pw w) A (kC "set.update.loop" ⟨[ao S,ao c],[]⟩) R s:=by
 have W:Walks pw w A.in1 c [c,l] [c] vs.size (λi v=>vs[i]?=aa v) (λi h=>h.IsListIter c l i/\h.IsList l vs):=En (A:=A.in1) hh c l H vs
 intro k
 induction k with
 |zero=>
  intro i s r n P t Z U
  have V:i=ds.length:=r
  have m:=t.f9
  clear r;subst V
  show nk KG ?_
  show aj _ A.in1 (gk (ao c)>>=_) _ _ s
  show ai (j5 (W.done s _ _ (m▸⟨n,P⟩) λh' tk u Y=>?_))
  show aj _ A.in1 (ret aN) _ _ _
  rw[pP]at Z
  show aD (U _ ⟨λb o x e=>u b o (λq=>x (bq _ q)) e,Y,rfl,rfl⟩ (Z.frame (fr:=[c]) (λa y=>M a (bq _ y)) (λh=>‹¬_› (bI.mp h)) u))
 |succ k ih=>
  intro i s r n P t Z U
  have nZ:=tM r
  have m:=t.f9
  show nk KG ?_
  show aj _ A.in1 (gk (ao c)>>=_) _ _ s
  show ai (j5 (W.item i s _ _ (ey ‹_› (gq ‹_›)) ⟨n,P⟩ λv z tk1 hv B f Hd=>?_))
  have hd:ds[i]?=aa ds[i]:=dn nZ
  have hI:∀a∈[c],a∈g.Z:=λa y=>M a (bq _ y)
  show aV ((t.cA f hI:RL w g z vs.toList ds).get hd) λv' Q rv=>?_
  rw[jf,hv]at Q
  cases Q
  have Z1:jO w L g z S X (dedup (ds.take i)):=Z.frame (fr:=[c]) hI (λh=>‹¬_› (bI.mp h)) f
  show aj _ A.in1 (ie [v] (vx S v)>>=_) _ _ _
  show ai (cU (ad _ {s with heap:=z,toks:=tk1} _ v ds[i] _ Z1 rv (N i _ hd) λh2 b tk2 sb Z2=>?_))
  have hS1:∀a∈[S],a∈g.Z:=λa y=>M a (by rwa[bI.mp y];show a7 ..)
  have j:∀b o,b∉[S]->z.get? b=aa o->h2.get? b=aa o:=λb o x e=>sb.extBut b o (λq=>‹¬_› (bB.mpr (aY q))) e
  show aD ⟨qX PyProof.Rows.F.plain_set_update_loop _,ih (i+1) _ (zW r) ?_ ?_ ((t.cA f hI:RL w g z vs.toList ds).cA j hS1) ?_ λp kp Z'=>?_⟩
  .show B.1.at λo e=>j c o (by simpa using(kY J)) e
  .show aV (B.2) λo a b=>?_
   show⟨o,j l o (by simpa using(kY K)) a,b⟩
  .rwa [Ds,hd,Option.toList_some,OS];show Z2
  .show U p (Kept.trans (s₁:={s with heap:=h2,toks:=tk2}) ⟨λb o x e=>j b o (λq=>x (by rwa[bI.mp q];show a7 ..)) (f b o (λq=>x (bq _ q)) e),aC Hd (bC sb.1.symm),rfl,rfl⟩ kp) Z'
theorem abY(L:Bool):TI L (.fresh 0 0 L) 0:=⟨rfl,λi j z h=>yW ‹_›,rfl,rfl⟩
theorem He(P:A.handled=N)(H:g.iT s.heap)(r:s.heap.get? l=W (bO vs m))(U:vs.size<=2^20)(I:RL w g s.heap vs.toList ds)
(J:OQ w (gy w) (g.more [s.heap.objs.size,s.heap.objs.size+1]) s.heap.objs.size X ok A.in1.in1.in1)(K:X #[] (.fresh 0 0 (gy w)) [])(t:∀i d,ds[i]?=aa d->ok (dedup (ds.take i)) d)
(M:∀h,cu s h->jO w (gy w) (g.more [s.heap.objs.size,s.heap.objs.size+1]) h.heap s.heap.objs.size X (dedup ds)->c (ao s.heap.objs.size) h):aj (ar pw w) A (b9 (aZ "set") [ao l]) c E s:=by
 show abq ?_
 have j:(s.heap.push (kO (gy w))).get? l=aa (bO vs m):=dF _ r
 have V:wm {s with heap:=s.heap.push (kO (gy w))} (ao l) "list" :=⟨_,j,rfl⟩
 have k:(s.heap.push (kO (gy w))).IsList l vs:=⟨_,j,rfl,m,rfl⟩
 have y:=PySem.F.sub_list_set
 have z:=PySem.F.sub_list_frozenset
 have N:(aZ "list" ==aZ "dict")=ah:=by rfl
 delta Builtin.«set.__init__» noKeywords Ro
 generalize u:ig=W
 wp_walk
 subst u
 show CG k ?_
 show ai (wpAny_runValue ?_)
 have n:(s.heap.push (kO (gy w))).objs.size=s.heap.objs.size+1:=(eP .. :(s.heap.push (kO (gy w))).objs.size=s.heap.objs.size+1)
 have f:∀a∈[s.heap.objs.size,s.heap.objs.size+1],s.heap.objs.size<=a:=by simp
 have v:cu s {s with heap:=(s.heap.push (kO (gy w))).push {cls:= aZ "list_iterator",data:= dU #[ao l,bL 0 0]}}:=(cu.push s _).trans (.push _ _)
 have x:A.in1.in1.handled=ae:=by assumption
 show abX (A:=A.in1.in1) (g:=g.more [s.heap.objs.size,s.heap.objs.size+1]) (L:=gy w) (X:=X) (ok:=ok) J (l:=l) (vs:=vs) (ds:=ds) x (by rwa[n];show eU (jQ (dt r))) (by rwa[n];show eU (dP _)) (kv (dt r)) (λa B=>?_) t ds.length 0 _ (iK _)
  ⟨_,dQ _ rfl,rfl,rfl⟩ (k.push _) ((I.enter v f)) ⟨#[],0,_,[],dF _ (dQ _ rfl:(s.heap.push (kO (gy w))).get? s.heap.objs.size=aa (kO (gy w))),abY _,K,.nil,.nil⟩ λh p Z=>?_
 .rw [n]at B
  show dT _ B
 .show aj _ _ _ _ _ _
  show aD ?_
  show aj _ _ (ret aN) _ _ _
  show aD ⟨rfl,M h ⟨λb o e=>p.keep b o (λq=>?_) (v.keep b o e),aC v.size p.size,p.gens,p.os⟩ Z⟩
  rw[n]at q
  show cq _ (bg (dt e) (f b q))
end
set_option backward.match.sparseCases true
theorem xG:Slot "set_iterator" "__next__" "set_iterator.__next__" :=
 .of (owner:= "set_iterator") (n:= "__next__") (by rwa[sU,sV];kernel_rfl) (by decide +kernel) (by decide +kernel) (by decide +kernel)
  (by first|show aY (by decide +kernel)|show .inr (by decide +kernel)) (by rwa[yM];kernel_rfl)
theorem OT:entryFor table "set_iterator.__next__" =W Builtin.«set_iterator.__next__»:=entryFor_of_tree (![])
theorem OU(a:K):argsOk "set_iterator.__next__" ⟨[a],[]⟩:=by unfold argsOk;kernel_rfl
theorem abZ:entryFor table "set.__iter__" =W Builtin.«frozenset.__iter__» :=
 entryFor_alias (id':= "frozenset.__iter__") (![]) rfl (by decide +kernel) (![])
theorem Bl(h:l[i]?=W x):(x::l.eraseIdx i).Perm l:=by
 induction l generalizing i with
 |nil=>show nn h
 |cons a r c=>
  induction i using dS with
  |zero=>rwa[show a=x from L h];show oG _
  |succ i=>show(wh ..).trans ((c h).cons a)
theorem ab0{next:Nat->Nat}(c:Nat):∀(k:Nat)(left:List b)(d:Array b),left.length<=c->(Et next c k left d).toList.Perm (d.toList++left):=by
 induction c with
 |zero=>
  intro k left d h
  rwa[ml.mp (Nat.eq_zero_of_le_zero h),eM]
  show oG _
 |succ c f=>
  intro k left d h
  rwa[show Et next (c+1) k left d=yl (motive:=λz=>Array b) left[next k%left.length]? d λx=>Et next c (k+1) (left.eraseIdx (next k%left.length)) (d.push x) by kernel_rfl]
  generalize q:left[next k%left.length]?=e;induction e with
  |none=>
   induction left using bH with
   |nil=>rwa[eM]
   |cons a r=>show aF (List.getElem?_eq_none_iff.mp q) (nu (y0 _ (dm _)))
  |some x=>
   show(f (k+1) _ (d.push x) (lB (P (bC (Bl q).length_eq) h))).trans ?_
   rwa[tD,iM]
   show List.Perm.append_left _ (Bl q)
section
variable{w:aU}{A:bK}{E:az->aA->Prop}{g:G}{s:aA}{S I:aR}
theorem ab1{Q:Nat->H->Prop}(c:n≠0)(h:∀e k,k<n->Q k {s with drawn:=e}):V (Z pw w) A (choose a n) Q E s:=λd p b=>by
 show zR (Z pw w) d (Sem.choose a n Sem.pure) _ _ p s
 rwa[Sem.wp_choose]
 show⟨c,aD (M:=Z pw w) (A:=A) (E:=E) (Q:=Q) (h _ _ (y0 _ (Nat.pos_of_ne_zero c))) d p b⟩
theorem ab2(n:Nat):∀(c:List b)(s:H){Q:List b->H->Prop},c.length=n->(∀e j,e.Perm c->Q e {s with drawn:=j})->V (Z pw w) A (drawOrder n c) Q E s:=by
 induction n with
 |zero=>
  intro c s Q d h
  rw[ml.mp d]at h
  show aD (h [] s.drawn .nil)
 |succ n l=>
  intro c s Q d h
  induction c using bH with
  |nil=>show aF d.symm (pK _)
  |cons a r=>
  show V (Z pw w) A (choose .order (a::r).length>>=_) Q E s
  show J (ab1 (pK _) λj k m=>?_)
  have f:(a::r)[k]?=W (a::r)[k]:=dn m
  rwa[f]
  show J (l _ _ (gs ((Bl f).length_eq.trans d)) λe i p=>?_)
  show aD (h _ i ((p.cons _).trans (Bl f)))
def sh(h:b0)(I S:aR)(first:K)(i n a:Nat):Prop:=h.get? I=W {cls:= aZ "set_iterator",dict:=N,data:= dU #[first,c6 i,M S,c6 n,c6 a],slots:=#[]}
theorem xH(h:a (w.params.followText "set-order") s):V (Z pw w) A CU a E s:=by
 unfold CU
 show J (sR (aD h))
structure lY (w:aU) (S:aR) (es:Array (Int×az)) (ep:Nat) (t:fA) (items:Array (Int×az)) (first:Nat->az) (h:b0) (I:aR):Prop where
 how:(∃slot:Nat->Nat,(∀i,first i=c6 (slot i))/\((w.params.followText "set-order" =af/\(∀i,slot i=slot 0)/\items=vz (w.params.setOrder S ep) es) \/
  (w.params.followText "set-order" =ah/\(!t.plain&&aK (es.size>1))=ah/\t.led=af/\items=es/\(∀i,i<=es.size->dz t.place (slot i)=i)/\∀i j,t.place[i]?=aa j->slot (i+1)=j+1))) \/
  ∃(T:aR)(ord:List Nat),(∀i,first i= ao T)/\T≠I/\h.get? T=aa (cP (ord.map λ(i:Nat)=>c6 i).toArray 0)/\ord.Perm (bE es.size)/\items=(ord.filterMap λi=>es[i]?).toArray
theorem lY.perm(o:lY w S es b t a first h I):a.toList.Perm es.toList:=by
 rcases o.how with⟨d,z,⟨z,z,rfl⟩|⟨z,z,z,rfl,z⟩⟩|⟨T,c,z,z,z,e,rfl⟩
 .unfold vz
  have:=ab0 (next:=w.params.setOrder S b) es.size 0 es.toList #[] (bG _)
  simpa using this
 .show oG _
 .show (c.filterMap λi=>es[i]?).Perm es.toList
  rwa[<-filterMap_getElem?_range es]
  show e.filterMap _
theorem lY.size(o:lY w S es b t a first h I):a.size=es.size:=by
 have:=o.perm.length_eq;simpa using this
theorem ab3(u:sh s.heap I S (first i) i d.size h)(ho:s.heap.get? S=W (n6 d h t))(T:TI c t d.size)(o:lY w S d h t f first s.heap I)
(M:f[i]?=aa e)(hQ:∀N,sh N I S (first (i+1)) (i+1) d.size h->gp I s.heap N->b (aa e.2) {s with heap:=N}):aj (ar pw w) A (gk (ao I)) b E s:=by
 have nZ:i<d.size:=by rwa[<-o.size];show(rH.mp M).1
 unfold gk
 show ai (qW (ma (name:=a0 "__next__") (⟨_,u,rfl⟩:s.TypeIs (ao I) "set_iterator") xG
  (gE xG (⟨_,u,rfl⟩:s.TypeIs (ao I) "set_iterator") OT ?_ (OU _))))
 unfold Builtin.«set_iterator.__next__»
 show ai (m:=slotArgs "__next__" 0 _) (aD ?_)
 show ai (yO u rfl ?_)
 show aj (ar pw w) A.in1 (setEntries S>>=_) _ _ s
 show ai (CV ho rfl T.fits ?_)
 rwa[aL (by simp)]
 have p:∀(x:az)(B:b0)(V:az),B.get? I=aa {cls:= aZ "set_iterator",dict:=ae,data:= dU #[V,c6 i,ao S,c6 d.size,c6 h],slots:=#[]}->V=first (i+1)->gp I s.heap B->x=e.2 ->
  aj (ar pw w) A.in1 (do pJ (ao I) 1 (c6 ((i:Int)+1));ret x) (λ(p:Fin) y=>∃v,p= nG (il v)/\(λv y=>aj (ar pw w) A (bx (aa v)) b E y) v y)
   (λe y=>aj (ar pw w) A (do if <-vw e (aZ "StopIteration")then bx ae else throw e) b E y) {s with heap:=B}:=λx B V h2 h3 h4 h5=>by
  show ai (kq h2 (br ..) λN W K=>aD ⟨_,rfl,aD ?_⟩)
  rwa[h5]
  show hQ N ?_ (h4.trans K)
  have e:((i+1:Nat):Int)=(i:Int)+1:=by rfl
  unfold sh
  rwa[W,<-h3,e]
  rfl
 rcases o.how with⟨z,hf,Y⟩|⟨Tp,j,hf,hTI,hT0,hp,n⟩
 .rwa [hf i]
  show aj (ar pw w) A.in1 (setNext S (z i) i h>>=_) _ _ s
  have q:∀(nx:Nat),c6 nx=first (i+1)->aj (ar pw w) A.in1 (do pJ (ao I) 0 (c6 nx);pJ (ao I) 1 (c6 ((i:Int)+1));ret e.2) (λ(p:Fin) y=>∃v,p= nG (il v)/\(λv y=>aj (ar pw w) A (bx (aa v)) b E y) v y)
   (λe y=>aj (ar pw w) A (do if <-vw e (aZ "StopIteration")then bx ae else throw e) b E y) s:=λnx hn=>by
   show ai (kq u (dm _) λB W K=>?_)
   show p e.2 B (c6 nx) (![W]) hn K rfl
  show ai (ai (m:=setState S) (mf ho rfl T.fits (ai (m:=CU) (xH ?_))))
  rcases Y with⟨hb,K,n⟩|⟨hb,hd,hl,n,B,h2⟩
  .rwa [hb,aJ rfl,aL (by simp)]
   show ai ?_
   unfold setWalk
   show ai (mf ho rfl T.fits ?_)
   dsimp only
   show ai (xH ?_)
   rwa[hb,aJ rfl]
   show ai (sR (aD (aD ?_)))
   show aj (ar pw w) A.in1 (match((vz (w.params.setOrder S h) d)[i]?).map (λe=>(e.2,z i))with|some (x,next)=>_|none=>_) _ _ s
   rwa[<-n,M]
   show q (z i) (![hf,K (i+1),K i])
  .rwa [hb,aL fe]
   show aj (ar pw w) A.in1 (if(!t.plain&&aK (d.size>1))=af then _ else _) _ _ s
   rwa[hd,aL fe]
   show ai ?_
   show aj (ar pw w) A.in1 (if(!t.led&& !d.isEmpty)=af then _ else _) _ _ s
   rwa[hl,ym,Ck,aL fe]
   show aD (aD ?_)
   rwa[B i (eL ‹_›)]
   clear p ho u hQ hd o B;subst n
   have Z:t.place.size=f.size:=bX.mp (au T.fits).1
   have J:i<t.place.size:=ey (by assumption) Z.symm
   have H:t.place[i]?=aa t.place[i]:=getElem?_pos t.place i J
   rwa[M,H]
   show q (t.place[i]+1) (![hf,h2 i _ H])
 .rwa [hf i]
  show aj (ar pw w) A.in1 (vy (ao Tp)>>=_) _ _ s
  unfold vy
  show ai (ai (qS hT0 (aD ?_)))
  have P:∀i∈j,i<d.size:=λi hi=>by simpa using hp.mem_iff.mp hi
  have hol:j.length=d.size:=by have:=hp.length_eq;simpa using this
  have J:i<j.length:=ey (by assumption) hol.symm
  have U:j[i]?=aa j[i]:=dn J
  have H:((j.map λ(i:Nat)=>c6 i).toArray)[i]?=aa (c6 j[i]):=by simp[U]
  have hfm:∀(l:List Nat),(∀i∈l,i<d.size)->∀k:Nat,(l.filterMap λi=>d[i]?)[k]?=(l[k]?).bind λi=>d[i]? :=λl=>by
   induction l with
   |nil=>intro g k;show jf ..
   |cons a r ih=>
    intro hl k
    have ha:=hl a (a7 ..)
    rwa[nz,getElem?_pos d a ha]
    induction k using dS with
    |zero=>simp[ha]
    |succ k=>simpa using ih (λi hi=>hl i (bq _ hi)) k
  have hse:d[j[i]]?=aa e:=by
   rw[n]at M
   have:(j.filterMap λi=>d[i]?)[i]?=aa e:=by simpa using M
   rw[hfm j P i,U]at this
   simpa using this
  show aj (ar pw w) A.in1 (match((j.map λ(i:Nat)=>c6 i).toArray)[((i:Nat):Int).toNat]? with|some (bL place _)=>_|some _=>_|none=>_) _ _ s
  rwa[rG,H]
  show aj (ar pw w) A.in1 (setNextDrawn S j[i] h>>=_) _ _ s
  show ai (ai (m:=setState S) (mf ho rfl T.fits ?_))
  show aj (ar pw w) A.in1 (if(h !=h)=af then _ else _) _ _ s
  rwa[aL (by simp),hse]
  show aD ?_
  show p e.2 s.heap (first i) u (![hf,hf]) (zA I s.heap) rfl
end
section
variable{w:aU}{A:bK}{E:az->aA->Prop}{g:G}{s:aA}{S I:aR}
theorem ab4(r:A.handled=N)(j:sh s.heap I S (first d.size) d.size d.size f)(u:s.heap.get? S=W (n6 d f t))(T:TI c t d.size)(o:lY w S d f t h first s.heap I)
(v:∀q,tw I s.heap q->a ae {s with heap:=q}):aj (ar pw w) A (gk (ao I)) a E s:=by
 show ai (qW (ma (name:=a0 "__next__") (⟨_,j,rfl⟩:s.TypeIs (ao I) "set_iterator") xG
  (gE xG (⟨_,j,rfl⟩:s.TypeIs (ao I) "set_iterator") OT ?_ (OU _))))
 show ai (m:=slotArgs "__next__" 0 _) (aD ?_)
 show ai (yO j rfl ?_)
 show aj (ar pw w) A.in1 (setEntries S>>=_) _ _ s
 show ai (CV u rfl T.fits ?_)
 rwa[aL (by simp)]
 rcases o.how with⟨l,y,z⟩|⟨N,n,y,P,B,U,k⟩
 .rwa [y d.size]
  show aj (ar pw w) A.in1 (setNext S ((l d.size:Nat):Int).toNat ((d.size:Nat):Int).toNat ((f:Nat):Int).toNat>>=_) _ _ s
  simp only[rG]
  show ai (ai (mf u rfl T.fits ?_))
  show ai (xH ?_)
  rcases z with⟨p,K,k⟩|⟨p,hd,hl,k,h1,h2⟩
  .rwa [p,aJ rfl,aL (by simp)]
   show ai ?_
   unfold setWalk
   show ai (mf u rfl T.fits ?_)
   show ai (xH ?_)
   rwa[p,aJ rfl]
   show ai (sR (aD (aD ?_)))
   show aj (ar pw w) A.in1 (match((vz (w.params.setOrder S f) d)[d.size]?).map (λe=>(e.2,l d.size))with|some (x,next)=>_|none=>_) _ _ s
   rwa[<-k,zG (bC o.size)]
   show xw r j rfl (by show br ..) v
  .rwa [p]
   show aj (ar pw w) A.in1 (if(!t.plain&&aK (d.size>1))=af then _ else _) _ _ s
   rwa[hd]
   show ai ?_
   show aj (ar pw w) A.in1 (if(!t.led&& !d.isEmpty)=af then _ else _) _ _ s
   rwa[hl,ym,Ck,aL fe]
   show aD (aD ?_)
   rwa[h1 d.size (bG _),zG (bG _)]
   show xw r j rfl (by show br ..) v
 .rwa [y d.size]
  show aj (ar pw w) A.in1 (vy (ao N)>>=_) _ _ s
  show ai (ai (qS B (aD ?_)))
  have H:n.length=d.size:=by have:=U.length_eq;simpa using this
  have J:((n.map λ(i:Nat)=>c6 i).toArray)[d.size]?=ae:=zG (by simp[H])
  show aj (ar pw w) A.in1 (match((n.map λ(i:Nat)=>c6 i).toArray)[((d.size:Nat):Int).toNat]? with|some (bL place _)=>_|some _=>_|none=>_) _ _ s
  rwa[rG,J]
  show ai (kq j (dm _) λh1 V K=>?_)
  show xw (s:={s with heap:=h1}) r V rfl (by show br ..) λq W=>v q λb M p e=>W b M p (K.extBut b M p e)
theorem ab5(a:Array Nat)(c:gQ a):∃b:Nat->Nat,b 0=0/\(∀i,i<=a.size->dz a (b i)=i)/\∀i j,a[i]?=W j->b (i+1)=j+1:=by
 show⟨λi=>match i with|0=>0|i+1=>a.getD i 0+1,rfl,λi d=>?_,λi j h=>?_⟩
 .induction i using dS with
  |zero=>show abu c
  |succ i=>show abt c (by assumption)
 .have d:i<a.size:=(rH.mp h).1
  rw[getD_some d]at h
  show a.getD i 0+1=_
  rwa[L h]
theorem ab6(x:s.heap.get? S=W (n6 d f t))(T:TI (gy w) t d.size)
(hz:d.size<=2^20)(V:∀I j k (first:Nat->az) (l:List aR),cu s j->(∀a∈l,s.heap.objs.size<=a/\a<j.heap.objs.size)->I∈l->(∀T,first 0= ao T->T∈l)->sh j.heap I S (first 0) 0 d.size f->lY w S d f t k first j.heap I->c (ao I) j):aj (ar pw w) A (ig (ao S)) c E s:=by
 show CM (⟨_,x,rfl⟩:s.TypeIs (ao S) "set") Ki (gE Ki (⟨_,x,rfl⟩:s.TypeIs (ao S) "set") abZ ?_ (PySem.F.args_set_iter_1 _))
 show ai (ai (m:=slotArgs "__iter__" 0 _) (aD ?_))
 show aj _ _ (bx S) _ _ s
 show aD ?_
 show ai (ai (CV x rfl T.fits (aD ?_)))
 show ai (ai (mf x rfl T.fits ?_))
 show ai (xH (aD ?_))
 show aj (ar pw w) A.in1 (if(!w.params.followText "set-order" &&(!t.plain&&aK (d.size>1)))=af then _ else _) _ _ s
 have n:∀(j:aA) (y:az) k (first:Nat->az) (l:List aR),cu s j->j.heap.get? S=aa (n6 d f t)->(∀a∈l,s.heap.objs.size<=a/\a<j.heap.objs.size)->(∀T,first 0= ao T->T∈l)->y=first 0->(∀z,z.get? j.heap.objs.size=aa {cls:= aZ "set_iterator",dict:=ae,data:= dU #[y,c6 0,ao S,c6 d.size,c6 f],slots:=#[]}->(∀b o,j.heap.get? b=aa o->z.get? b=aa o)->lY w S d f t k first z j.heap.objs.size) ->
  aj (ar pw w) A.in1 (do ret (<-newFields "set_iterator" [y,c6 0,ao S,c6 d.size,c6 (<-setEpoch S)])) (λ(n:Fin) P=>∃v,n= nG (il v)/\∃U r,P.TypeIs v U/\mc (aZ U) "__next__" =bx (aa r)/\c v P) E j:=λj y k first l G K q L hf0 H=>by
  show ai (wpAny_setEpoch_of K rfl T.fits ?_)
  show ai (ng (aD ⟨_,rfl, "set_iterator",_,⟨_,dQ _ rfl,rfl⟩,xG.lookup,?_⟩))
  have hI:(j.heap.push {cls:= aZ "set_iterator",data:= dU [y,c6 0,ao S,c6 d.size,c6 f].toArray}).get? j.heap.objs.size=aa {cls:= aZ "set_iterator",dict:=ae,data:= dU #[y,c6 0,ao S,c6 d.size,c6 f],slots:=#[]}:=dQ _ rfl
  show V _ _ k first (j.heap.objs.size::l) (G.trans (.push _ _)) (λa B=>?_) (a7 ..) (λT h=>bq _ (L T h)) ?_ (H _ hI λb o e=>dF _ e)
  .show _/\_<(j.heap.push _).objs.size
   rwa[eP]
   rcases bB.mp B with rfl|B
   .show ⟨G.size,dP _⟩
   .show ⟨(q a B).1,jQ (q a B).2⟩
  .unfold sh;rwa[hI,hf0];rfl
 by_cases hc:(!w.params.followText "set-order" &&(!t.plain&&aK (d.size>1)))=af
 .rwa [aJ hc]
  show ai (ab2 d.size _ s gI λp dr hp=>?_)
  have M:p.length=d.size:=by have:=hp.length_eq;simpa using this
  show ai (yH ?_ (by
   have W:fL=2^24:=rfl
   rwa[bN,M,W];show aC ‹_› (by simp)))
  show n {s with heap:=s.heap.push (cP (p.map λ(i:Nat)=>c6 i).toArray 0),drawn:=dr} (ao s.heap.objs.size) (p.filterMap λi=>d[i]?).toArray (λg=> ao s.heap.objs.size) [s.heap.objs.size] ⟨λb o e=>dF _ e,by show _<=(s.heap.push _).objs.size;rwa[eP];show gW _,rfl,rfl⟩ (dF _ x) (λa B=>?_) (λT h=>by injection h with h;rwa[<-h];show a7 ..) rfl λz h1 Y=>⟨aW (x2 s.heap.objs.size p ⟨λg=>rfl,?_,Y _ _ (dQ _ rfl),hp,rfl⟩)⟩
  .rwa [bI.mp B]
   show⟨bG _,by show _<(s.heap.push _).objs.size;rwa[eP];show dP _⟩
  .show s.heap.objs.size≠(s.heap.push _).objs.size
   rwa[eP];show eU (dP _)
 .rwa [aL hc]
  show ai (aD ?_)
  generalize J:w.params.followText "set-order" =N;induction N with
  |true=>
   show n s (c6 0) (vz (w.params.setOrder S f) d) (λg=>c6 0) [] (.refl s) x (λg h=>aF h bc) (λT h=>by cases h) rfl λz g g=>⟨aY ⟨λg=>0,λg=>rfl,aY ⟨J,λg=>rfl,rfl⟩⟩⟩
  |false=>
   have Z:t.place.size=d.size:=by have:=T.fits;simp only[zu,eu,bX]at this;show this.1
   show eA (ab5 t.place T.rise) λu s0 s1 s2=>?_
   have hl:t.led=af:=![T.led,gy,J]
   show n s (c6 0) d (λi=>c6 (u i)) [] (.refl s) x (λg h=>aF h bc) (λT h=>by cases h) (![s0]) λz g g=>⟨aY ⟨u,λg=>rfl,aW ⟨J,by simpa[J]using hc,hl,rfl,λi hi=>s1 i (aC ‹_› (bC (gq ‹_›))),s2⟩⟩⟩
end
set_option backward.match.sparseCases false
section
variable{w:aU}{A:bK}{E:az->aA->Prop}{g:G}{s:aA}{S I:aR}
theorem RL.ab7:∀{m n:List az},m.Perm n->∃f:List D->List D,∀(g:G)(h:b0)(i:List D),RL w g h m i->RL w g h n (f i)/\(f i).Perm i:=λp=>by
 induction p with
 |nil=>show⟨id,λg h i r=>⟨r,oG _⟩⟩
 |cons x _ q=>
  obtain⟨f,t⟩:=q
  show⟨λl=>match l with|[]=>[]|d::r=>d::f r,λg h i r=>?_⟩
  show my i r.pq λd o a b=>?_
  obtain⟨u,v⟩:=t g h _ b;show⟨.cons a u,v.cons _⟩
 |swap x y l=>
  show⟨λl=>match l with|a::b::r=>b::a::r|l=>l,λg h i r=>?_⟩
  show my i r.pq λd o a b=>?_
  clear r;obtain⟨e,o,rfl,b,c⟩:=b.pq
  show⟨.cons b (.cons a c),wh ..⟩
 |trans _ _ j k=>
  show dM j λz B=>?_
  obtain⟨Q,H⟩:=k
  show⟨λl=>Q (z l),λg h i r=>?_⟩
  obtain⟨J,K⟩:=B g h i r
  obtain⟨L,M⟩:=H g h _ J
  show⟨L,M.trans K⟩
theorem lY.frame(o:lY w S b c t a first h I)(k:∀T o,first 0= M T->h.get? T=W o->d.get? T=W o):lY w S b c t a first d I:=by
 rcases o.how with q|⟨T,e,f,i,j,l,m⟩
 .show ⟨aY q⟩
 .show ⟨aW (x2 T e ⟨f,i,k T _ (f 0) j,l,m⟩)⟩
theorem ab8{g':G}{X:Array (Int×az)->fA->List D->Prop}{V:List D}(Z:jO w (gy w) g' s.heap S X V)(hk:D.bT V=af)(hg:∀a,g.Mt a->g'.Mt a)(hz:V.length<=2^20):qz w "set" S g s (·.Perm V):=by
 show z3 Z.ex λx Y t c ho T R hp rl=>?_
 have H:D.bT c=af:=xC λd hd=>j6 hk d (hp.mem_iff.mp hd)
 have J:x.size=c.length:=by have:=rl.length;simpa using this
 show⟨⟨_,ho,rfl⟩,λl hl=>by rwa[hl.length_eq];show hz,x.toList.map (·.2),c,(rl.Bd hg H:RL w g s.heap (x.toList.map (·.2)) c),λs₁ A Q E hh G low hQ=>?_⟩
 have n:=G.keep _ _ ho
 show ab6 n T (by rwa[J,hp.length_eq];show hz) λI K z first p G2 y hI hT L j=>?_
 obtain⟨f,hf⟩:=RL.ab7 (w:=w) (j.perm.symm.map (·.2))
 obtain⟨R,pf⟩:=hf g s.heap c (rl.Bd hg H:RL w g s.heap (x.toList.map (·.2)) c)
 have M:=dt n
 have N:S∉p:=λq=>cq _ (bg M (y S q).1)
 have P:S≠I:=λe=>N (e▸hI)
 have ab9:(f c).length=x.size:=![pf.length_eq,J]
 show hQ I K (f c) (pf.trans hp) ⟨p,S::p,(λi h=>sh h I S (first i) i x.size Y/\h.get? S=aa (n6 x Y t)/\lY w S x Y t z first h I),G2,y,λb B=>?_,λA' hh'=>⟨?_,?_,?_⟩,L,G2.keep _ _ n,j⟩
 .clear Z M ho N L P j;rcases bB.mp B with rfl|B
  .show aW ⟨_,n,ne_of_beq_false rfl⟩
  .show aY B
 .rintro i h h' ⟨h1,h2,h3⟩ k
  show⟨k I (bq _ hI) _ h1,k S (a7 ..) _ h2,h3.frame λT o e q=>k T (bq _ (hT T e)) o q⟩
 .rintro i g2 s3 d Q' E' hd ⟨r,u,m⟩ rl3 agE hz3 hq
  obtain⟨r3,R⟩:=hf g2 s3.heap c rl3
  show aV (r3.get hd) λv hv rv=>?_
  rw[dy]at hv
  revert rv;show ct v (ej.mp hv) λe he rv=>?_
  rw[jf]at he
  show ab3 r u T m he λh' U W=>?_
  have kp:Kept p s3 {s3 with heap:=h'}:=⟨λb o B e=>W.extBut b o (λq=>B (q▸hI)) e,bC W.1.symm,rfl,rfl⟩
  show hq _ _ (rv.ext kp.step.ext hz3) ⟨U,W.extBut _ _ P u,m.frame λT o e q=>?_⟩ kp
  show W.extBut T o (λqq=>?_) q
  rcases m.how with⟨slot,h1,R⟩|⟨T',ord,h1,h2,R⟩
  .rw [h1 0]at e;cases e
  .rw [h1 0]at e
   injection e with e
   show h2 (e.trans qq)
 .rintro s3 Q' E' ⟨r,u,m⟩ hq
  rw[ab9]at r
  show j5 (ab4 hh' r u T m λh' hx hs'=>hq _ ⟨λb o B e=>hx b o (λq=>B (q▸hI)) e,hs',rfl,rfl⟩)
end
theorem Hf(a:List D)(d:D):a.length<=(gg a d).length:=by unfold gg;split<;>(first|show bG _|simp)
theorem aca :x∈gg a d↔x∈a\/x=d:=by
 unfold gg
 split
 .rename_i h
  constructor
  .show aY
  .rintro (q|rfl)
   .show q
   .show h
 .rwa [d9,bI]
theorem Hg(l:List D):x∈dedup l↔x∈l:=by
 have:∀(l b:List D),x∈l.foldl gg b↔x∈b\/x∈l:=λl=>by
  induction l with
  |nil=>simp
  |cons a r c=>intro b;rwa[pR,c,aca,bB,or_assoc]
 show x∈l.foldl gg []↔_
 rwa[this];simp
theorem acb(a b:List D):(dedup a).length<=(dedup (a++b)).length:=by
 have:∀(l c:List D),c.length<=(l.foldl gg c).length:=λl=>by
  induction l with
  |nil=>intro z;show bG _
  |cons a r d=>intro c;show P (Hf c a) (d _)
 show _<=((a++b).foldl gg []).length
 rwa[Jq];show this b _
theorem Hh(h:l[i]?=W d):(gg (dedup (l.take i)) d).length<=(dedup l).length:=by
 rwa[<-OS]
 have:l.take i++[d]=l.take (i+1):=![Ds,h]
 rwa[this]
 conv=>rhs;rw[<-q5 (i+1) l]
 show acb _ _
section
variable{w:aU}{A:bK}{E:az->aA->Prop}{g:G}{s:aA}{σ:St}{Q:az->aA->Prop}
theorem acd(hu:A.units+400<cv)(U:A.handled=ae)(I:Inv w g s σ)(rv:R w g s.heap v d)(h:eY qm σ d=aa r)(Y:PE w g s σ r Q):
 aj (ar pw w) A (b9 (aZ "set") [v]) (λV j=>aj (ar pw w) A (b9 (bM "sorted") [V]) Q E j) E s:=by
 have z:g.iT s.heap:=λa ha=>I.mO a ha
 show bU (h) λl q h=>?_
 have q:=uL q
 revert Y;show ct r (fX h) λes u Y=>?_
 show wA v (jL I rv q) λa vs m ho hz rl=>?_
 have B:s.heap.objs.size∈(g.more [s.heap.objs.size,s.heap.objs.size+1]).Z:=dT _ (a7 ..)
 have H:∀{X:Array (Int×az)->fA->List D->Prop} j,cu s j->jO w (gy w) (g.more [s.heap.objs.size,s.heap.objs.size+1]) j.heap s.heap.objs.size X (dedup l)->gx (dedup l)=aa es ->
  aj (ar pw w) A (b9 (bM "sorted") [ao s.heap.objs.size]) Q E j:=λj G Z J=>by
  have W:=(iff J).1
  have I':=I.bz (lU G []) (r6 I G)
  show Bh (by lia) I' (G5 (aW (aW rfl)) U I' (ab8 (g:=g) Z W.2.1 (λa ha=>lT.mpr (aY ha)) (by lia))) (λl' pd=>abo pd J) (Y.step (lU G []))
 by_cases y:(l.all λd=>aK (d.kk=2))=af
 .obtain ⟨h4,u⟩:=iff ((aJ y).symm.trans u)
  have W:=(iff u).1
  have hkk:∀d∈l,d.kk=2:=by simpa using y
  show He (g:=g) (X:=XT w) (ok:=λp d=>d.bF=af/\d.kd<=7/\d.kk=2/\(gg p d).length<=4) U z ho hz rl ?_ ⟨rfl,cQ _,λi hi=>aF ‹_› (i7 _),rfl,rfl,by decide,by decide⟩ (λi d f=>?_) λj G Z=>H j G Z u
  .intro E' j p V d' Q' Z n c K
   show abW (show A.units+303<cv from la (by assumption) (aQ rfl)) B Z n c.1 c.2.1 c.2.2.1 c.2.2.2 λL b tk M N=>K L b tk M N
  .have hm:=cN f
   have P:=(Hg l).mpr hm
   show⟨j6 W.2.1 d P,bS (bQ.mp W.2.2.1 d P),hkk d hm,aC (Hh f) h4⟩
 .obtain ⟨y,u⟩:=iff ((aL y).symm.trans u)
  have hlen:=(iff u).1.1
  rcases y with y|y
  .have o:∀d∈l,∃k,d= aq k:=λd f=>by
    have f:d.kk=0:=bS (bQ.mp y d f)
    induction d using bJ<;>first|show⟨_,rfl⟩|show aF f (aQ rfl)
   show He (g:=g) (X:=λes T T=>qZ (Cs pw w) es.toList) (ok:=λp d=>(∀x∈p,∃k,x=aq k)/\(∃k,d=aq k)/\p.length+1<4096) U z ho hz rl ?_ (λe he=>aF ‹_› bc) (λi d f=>?_) λj G Z=>H j G Z u
   .intro E' j p V d' Q' Z n c K
    obtain⟨h1,⟨k,rfl⟩,h3⟩:=c
    show OG (knd:=Cs pw w) (tod:=aq) (λh v k r=>by show gu v r λt=>?_;show⟨intKind_is _ _ _ _,rfl⟩) (λa b e=>by injection e) B Z h1 n h3 λL b M N=>K L b _ M N
   .show ⟨λx hx=>o x (zf ((Hg _).mp hx)),o d (cN f),?_⟩
    have:=aC (Hf _ d) (Hh f);lia
  .have o:∀d∈l,∃k,d= bl k:=λd f=>by
    have f:d.kk=1:=bS (bQ.mp y d f)
    induction d using bJ<;>first|show⟨_,rfl⟩|show aF f (aQ rfl)
   show He (g:=g) (X:=λes T T=>qZ (Ct pw w) es.toList) (ok:=λp d=>(∀x∈p,∃k,x=bl k)/\(∃k,d=bl k)/\p.length+1<4096) U z ho hz rl ?_ (λe he=>aF ‹_› bc) (λi d f=>?_) λj G Z=>H j G Z u
   .intro E' j p V d' Q' Z n c K
    obtain⟨h1,⟨k,rfl⟩,h3⟩:=c
    show OG (knd:=Ct pw w) (tod:=bl) (λh v k r=>by show ee v r λt T=>?_;show⟨beq_self_eq_true _,rfl⟩) (λa b e=>by injection e) B Z h1 n h3 λL b M N=>K L b _ M N
   .show ⟨λx hx=>o x (zf ((Hg _).mp hx)),o d (cN f),?_⟩
    have:=aC (Hf _ d) (Hh f);lia
theorem ace(d:(a==jw)=Y)(e:s.heap.get? a=W (eb b m))
(f:Q (ao s.heap.objs.size) {s with heap:=s.heap.push {cls:= aZ "dict_items",data:= dU #[ao a]}}):aj (ar pw w) A (b9 (bM "dict.items") [ao a] []) Q E s:=by
 have c:s.TypeIs (ao a) "dict" :=⟨_,e,rfl⟩
 show gE Kj c PySem.F.entry_dict_items ?_ (PySem.F.args_dict_items_1 _)
 show ai ?_
 show ai (sO c ?_)
 show aj _ _ (bx a) _ _ s
 show aD ?_
 unfold Es
 rwa[aL (by rwa[d];show fe)]
 show ai (aD ?_)
 show ai (ng (aD ⟨_,rfl,f⟩))
end
theorem acf:mc (aZ "list") "keys" =bx N:=by rw[sU,sV];kernel_rfl
theorem acg:mc (aZ "tuple") "keys" =bx N:=by rw[sU,sV];kernel_rfl
section
variable{w:aU}{A:bK}{E:az->aA->Prop}{g:G}{s:aA}{σ:St}
theorem ach(l:s.heap.get? a=W (bO f k))(p:A.handled=N)
(q:∀j m,(∀b o,s.heap.get? b=aa o->j.get? b=aa o)->c ae {s with heap:=j,toks:=m}):aj (ar pw w) A (vA (ao a) "keys") c E s:=by
 obtain⟨r,g,d,m,t⟩:=s
 have n:∀h,(⟨r,g,d,h,t⟩:aA).TypeIs (ao a) "list" :=λZ=>⟨_,l,rfl⟩
 have u:=II
 have v:=DV.lookup
 have x:=DV.bind (ao a)
 have y:=am_list_getattr_none
 unfold vA getAttrBy? getAttrBy
 repeat (any_goals (first|assumption|exact n _|((with_reducible change aj _ _ (b9 (bM "list.__getattribute__") _ _) _ _ _);refine sP DV (n _) am_entry_list_getattribute (PySem.F.args_list_getattribute_2 _ _) (meets_getattribute_miss_list a f k #[] "keys" _ acf (by rfl)) ⟨l,p,λj h e i=>?_⟩)|wp_step))
 obtain⟨z,B,H⟩:=i.there
 change aj _ _ (yS _ _ _ _ _ _ _) _ _ _
 unfold yS
 repeat (any_goals (first|assumption|wp_step))
 exact q _ _ i.keeps
theorem aci(l:s.heap.get? a=W (cP f k))(p:A.handled=N)
(q:∀j m,(∀b o,s.heap.get? b=aa o->j.get? b=aa o)->c ae {s with heap:=j,toks:=m}):aj (ar pw w) A (vA (ao a) "keys") c E s:=by
 obtain⟨r,g,d,m,t⟩:=s
 have n:∀h,(⟨r,g,d,h,t⟩:aA).TypeIs (ao a) "tuple" :=λZ=>⟨_,l,rfl⟩
 have u:=II
 have v:=DW.lookup
 have x:=DW.bind (ao a)
 have y:=am_tuple_getattr_none
 unfold vA getAttrBy? getAttrBy
 repeat (any_goals (first|assumption|exact n _|((with_reducible change aj _ _ (b9 (bM "tuple.__getattribute__") _ _) _ _ _);refine sP DW (n _) am_entry_tuple_getattribute (PySem.F.args_tuple_getattribute_2 _ _) (meets_getattribute_miss_tuple a f k #[] "keys" _ acg (by rfl)) ⟨l,p,λj h e i=>?_⟩)|wp_step))
 obtain⟨z,B,H⟩:=i.there
 change aj _ _ (yS _ _ _ _ _ _ _) _ _ _
 unfold yS
 repeat (any_goals (first|assumption|wp_step))
 exact q _ _ i.keeps
theorem pair_items(r:R w g s.heap v (aw [k,x]))(f:∀a b,R w g s.heap a k->R w g s.heap b x->c [a,b] s):V (Z pw w) A (Kv v) c E s:=by
 obtain⟨a,h,n,rfl,d,o,t,i⟩:=r
 .have j:s.TypeIs (M a) "tuple" :=⟨_,d,rfl⟩
  obtain⟨p,q,e,l,m⟩:=RL.two i
  unfold Kv
  show J (nf j ?_)
  rw[aJ (by rfl)]
  unfold vy
  show J (J (qS d (aD (aD ?_))))
  show c h.toList s
  rw[e];show f p q l m
end
theorem acj(h:mF (d::r)=W a):∃k v l,d= aw [k,v]/\mF r=W l/\a=(k,v)::l:=by
 induction d using bJ with
 |tup l=>match l with
  |[k,v]=>show ct a (fX h) λl b=>?_;show x3 k v l ⟨rfl,b,rfl⟩
  |[]=>show nn h
  |[_]=>show nn h
  |_::_::_::_=>show nn h
 |_=>show nn h
theorem OV :∀{ps:List (D×D)},mF a=W ps->a=ps.map λp=> aw [p.1,p.2]:=by
 induction a with
 |nil=>intro ps h;rwa[<-L h];rfl
 |cons d r i=>intro ps h;show oL (acj h) λk v l b q c=>?_;clear h;obtain rfl:=b;obtain rfl:=c;rwa[i q];rfl
theorem OW:entryFor table "dict.update.loop" =W Builtin.«dict.update.loop»:=entryFor_of_tree (![])
theorem OX:plainId "dict.update.loop" =U:=by decide +kernel
section
variable{w:aU}{A:bK}{E:az->aA->Prop}{g:G}{s:aA}{σ:St}
theorem ack{D0 I l:aR}{vs:Array az}{ps out:List (D×D)}{St:Nat->b0->Prop}(W:Walks pw w A.in1 I [I,l] [I] vs.size (λi v=>vs[i]?=aa v) St)(hu:A.units+200<cv)(hDI:D0≠I)(hDl:D0≠l)(V:∀a∈[D0,I],a∈g.Z)(H:vs.size=ps.length){R:km->aA->Prop}:
 ∀(k i:Nat) (s:aA) (d:List (D×D)) (J:List fg) (m:Nat),i+k=ps.length->St i s.heap->RL w g s.heap vs.toList (ps.map λp=> aw [p.1,p.2])->DictAt w g s.heap D0 J m d->d.length+k<=2^20 ->
  (ps.drop i).foldl lX (aa d)=aa out->(∀s' x m',Kept [D0,I] s s'->DictAt w g s'.heap D0 x m' out->R (fO (il aN)) s') ->
  gm (ar pw w) A (kC "dict.update.loop" ⟨[ao D0,ao I,c6 i,aN],[]⟩) R s:=by
 intro k
 induction k with
 |zero=>
  intro i s d J m K y Y n P t hR
  have Z:i=ps.length:=K
  clear K;subst Z
  rw[Dm]at t
  clear P;cases t
  show nk OW ?_
  show aj _ A.in1 (gk (ao I)>>=_) _ _ s
  show ai (j5 (W.done s _ _ (by rwa[H];show y) λh' tk z hs'=>?_))
  show aj _ A.in1 (Builtin.Dict.addKeywords D0 []>>=_) _ _ _
  show ai (aD ?_)
  show aD (hR _ J m ⟨λb o u e=>z b o (λq=>u (bq _ q)) e,hs',rfl,rfl⟩ ⟨z _ _ (λh=>‹¬_› (bI.mp h)) n.at_,n.sz,n.nd,n.re.cA z (λa L=>V a (bq _ L):∀a∈[I],a∈g.Z)⟩)
 |succ k ih=>
  intro i s d J m K y Y n P t hR
  have M:=tM K
  have hI:∀a∈[I],a∈g.Z:=λa L=>V a (bq _ L)
  have hD:∀a∈[D0],a∈g.Z:=λa L=>V a (by rwa[bI.mp L];show a7 ..)
  show nk OW ?_
  show aj _ A.in1 (gk (ao I)>>=_) _ _ s
  show ai (j5 (W.item i s _ _ (ey ‹_› (gq ‹_›)) y λv Q B hv st1 j Hd=>?_))
  have da1:DictAt w g Q D0 J m d:=⟨j _ _ (λh=>‹¬_› (bI.mp h)) n.at_,n.sz,n.nd,n.re.cA j hI⟩
  have hd:(ps.map λp=>aw [p.1,p.2])[i]?=aa (aw [ps[i].1,ps[i].2]):=![dy,dn M]
  show aV ((Y.cA j hI:RL w g Q vs.toList (ps.map λp=> aw [p.1,p.2])).get hd) λv' N rv=>?_
  rw[jf,hv]at N
  cases N
  show aj _ A.in1 (ie [v] _>>=_) _ _ _
  show ai (cU (ai (wpAny_tryCatch (pair_items (s:={s with heap:=Q,toks:=B}) rv λa b ra rb=>?_))))
  dsimp only
  rw[vO M,pR]at t
  by_cases U:keyOk d ps[i].1
  .have t:(ps.drop (i+1)).foldl lX (aa (cp d ps[i].1 ps[i].2))=aa out:=(aI (List.foldl lX · _) (aJ U:lX (aa d) ps[i]=_)).symm.trans t
   obtain⟨k1,k2⟩:=Ag U
   try with_reducible show cU ?_
   show cU ?_
   show ai (Pq.R.hash ra k1 (zV hu k2) ?_)
   show EH (s:={s with heap:=Q,toks:=B+ps[i].1.draws}) (show A.units+101<cv from la hu (aQ rfl)) da1 ra rb U (bg (IJ (dm k)) P) λh2 x n' sb b c e f=>?_
   have r:∀b o,b∉[D0]->Q.get? b=aa o->h2.get? b=aa o:=λb o u e=>sb.extBut b o (λq=>‹¬_› (bB.mpr (aY q))) e
   have e1:((i:Int)+1)=((i+1:Nat):Int):=by rfl
   show aD ⟨qX OX _,?_⟩
   show gm (ar pw w) A (kC "dict.update.loop" ⟨[ao D0,ao I,c6 ((i:Int)+1),aN],[]⟩) R _
   show ih (i+1) _ (cp d ps[i].1 ps[i].2) x n' (zW K) (W.frame _ _ _ st1 λb u o e=>r b o (λq=>?_) e) ((Y.cA j hI:RL w g Q vs.toList (ps.map λp=> aw [p.1,p.2])).cA r hD) ⟨b,c,e,f.cA r hD⟩ (aC (kS N0 k) (aC (bC (kT _ k)) P)) t λs' acm m'' kp da'=>?_
   .rw [bI.mp q]at u
    rcases bB.mp u with q|q
    .show hDI q
    .show hDl (bI.mp q)
   .show hR s' acm m'' (Kept.trans (s₁:={s with heap:=h2,toks:=B+ps[i].1.draws}) ⟨λb o u e=>r b o (λq=>u (by rwa[bI.mp q];show a7 ..)) (j b o (λq=>u (bq _ q)) e),aC Hd (bC sb.1.symm),rfl,rfl⟩ kp) da'
  .show nn ((NZ _).symm.trans ((aI (List.foldl lX · _) (aL U:lX (aa d) ps[i]=_)).symm.trans t))
theorem acn(hu:A.units+400<cv)(hh:A.handled=ae)(I:Inv w g s σ)(rv:R w g s.heap v d)(h:eY oS σ d=aa r)(hQ:PE w g s σ r c):
 aj (ar pw w) A (b9 (aZ "dict") [v]) c E s:=by
 have k:∀(l:aR)(vs:Array az)(ds:List D)(L:cC)(T:String)(ic:String),v= ao l->s.heap.get? l=aa L->L.cls= aZ T->(aZ T !=aZ "dict")=af->vs.size<=2^20->RL w g s.heap vs.toList ds ->
  ds.length<=1000->(∀ps,mF ds=aa ps->∀out,nL ps=aa out->r= dG out ->
  (∀{A:bK}{E:az->aA->Prop}(n:aA)(P:Option az->aA->Prop),A.handled=ae->n.heap.get? l=aa L->(∀h' tk,(∀b o,n.heap.get? b=aa o->h'.get? b=aa o)->P ae {n with heap:=h',toks:=tk})->aj (ar pw w) A (vA (ao l) "keys") P E n) ->
  (∀{A:bK}{E:az->aA->Prop}(n:aA)(P:az->aA->Prop),n.heap.get? l=aa L->P (ao n.heap.objs.size) {n with heap:=n.heap.push {cls:= aZ ic,data:= dU #[ao l,bL 0 0]}}->aj (ar pw w) A (ig (ao l)) P E n) ->
  (∀(A:bK)(I:aR),A.handled=ae->l≠I->∃St:Nat->b0->Prop,Walks pw w A I [I,l] [I] vs.size (λi v=>vs[i]?=aa v) St/\∀h:b0,h.get? l=aa L->h.get? I=aa {cls:= aZ ic,data:= dU #[ao l,bL 0 0]}->St 0 h) ->
  aj (ar pw w) A (b9 (aZ "dict") [ao l]) c E s):=by
  intro l vs ds L T ic hv M Bm hT hz rl hlen ps t out f hr z iter N
  show callType_codes (Q₁:=λobj H=>obj= ao s.heap.objs.size/\H={s with heap:=s.heap.push {cls:= aZ "dict",data:= mu #[]}}) PySem.F.kt_called_dict (PySem.F.kt_typeCall_dict_1 _) PySem.F.entry_dict_init (kt_code_dict_new _ ⟨rfl,rfl⟩) ?_
  rintro obj H ⟨rfl,rfl⟩
  have J:(s.heap.push {cls:= aZ "dict",data:= mu #[]}).get? s.heap.objs.size=aa (eb [] 0):=dQ _ rfl
  have B:(s.heap.push {cls:= aZ "dict",data:= mu #[]}).get? l=aa L:=dF _ M
  have OY:wm {s with heap:=s.heap.push {cls:= aZ "dict",data:= mu #[]}} (ao s.heap.objs.size) "dict" :=⟨_,J,rfl⟩
  show⟨OY,PySem.F.args_dict_init_2 _ _,?_⟩
  unfold Builtin.«dict.__init__»
  show ai ?_
  show ai (sO OY ?_)
  show aj _ _ (bx (s.heap.objs.size,[ao l])) _ _ _
  show aD ?_
  show aj _ _ (Builtin.Dict.updateFrom "dict.__init__" s.heap.objs.size (ao l) [] aN) _ _ _
  show ai (nf ⟨_,B,Bm⟩ ?_)
  rwa[aJ hT]
  show ai (j5 (z _ _ (by assumption) B λj tk k2 Hi=>?_))
  show ai (iJ ?_)
  show ai (iter _ _ (k2 _ _ B) ?_)
  have z1:(s.heap.push {cls:= aZ "dict",data:= mu #[]}).objs.size=s.heap.objs.size+1:=eP ..
  have u:s.heap.objs.size+1<=j.objs.size:=by rwa[<-z1];show Hi
  show aV (N A.in1.in1 j.objs.size (by assumption) (eU (bg (dt M) (aC (gW _) u)):l≠j.objs.size)) λSt W lV=>?_
  have K:∀a∈[s.heap.objs.size,j.objs.size],s.heap.objs.size<=a:=λa ha=>by
   rcases bB.mp ha with rfl|ha
   .show bG _
   .rwa [bI.mp ha];show aC (gW _) u
  have G2:cu s {s with heap:=j.push {cls:= aZ ic,data:= dU #[ao l,bL 0 0]},toks:=tk}:=⟨λb o e=>dF _ (k2 _ _ (dF _ e)),by show _<=(j.push _).objs.size;rwa[eP];show gV (eL ‹_›),rfl,rfl⟩
  have hdl:ds.length=ps.length:=by rwa[(OV t)];show bN ..
  have rle:RL w (g.more [s.heap.objs.size,j.objs.size]) (j.push {cls:= aZ ic,data:= dU #[ao l,bL 0 0]}) vs.toList (ps.map λp=> aw [p.1,p.2]):=by rwa[<-(OV t)];show rl.enter G2 K
  have OZ:vs.size=ps.length:=by have:=rl.length;simp at this;show iP ‹_› ‹_›
  show aD ⟨qX OX _,?_⟩
  show ack (A:=A.in1) (g:=g.more [s.heap.objs.size,j.objs.size]) (D0:=s.heap.objs.size) (I:=j.objs.size) (l:=l) (vs:=vs) (ps:=ps) (out:=out) W (show A.units+201<cv from la hu (aQ rfl)) (eU (bg (dP _) u):s.heap.objs.size≠j.objs.size) (kv (dt M)) (λa ha=>dT _ ha) OZ ps.length 0 _ [] [] 0 (iK _)
   (lV _ (dF _ (k2 _ _ B)) (dQ _ rfl)) rle ⟨dF _ (k2 _ _ J),by simp,kU,rfl⟩ (by simp;show aC (bC (gq ‹_›)) ‹_›) f λs' es' m' kp da=>?_
  have G3:cu s s':=⟨λb o e=>kp.keep b o (λq=>cq _ (bg (dt e) (K b q))) (G2.keep b o e),aC G2.size kp.size,kp.gens,kp.os⟩
  show⟨rfl,hQ _ g s' (lU G3 []) (r6 I G3) ?_⟩
  rwa[hr]
  show R.ji da.at_ ⟨xr I (bG _),(beq_eq_false_iff_ne.mpr λe=>aF w2 (i8.mpr (e▸I.base.y.size)):(s.heap.objs.size==jw)=ah)⟩ da.sz da.nd (RE.aaA da.re (λX X X e=>e) (λa hm X q=>hm (lT.mpr (aY q))) λX X e=>e)
 have h:mG oS (look σ d)=aa r:=h
 generalize q:look σ d=y at h
 induction y using bJ with
 |lst l=>
  obtain⟨hl,h⟩:=iff h
  clear hQ;obtain⟨out,U,rfl⟩:=fX h
  obtain⟨ps,t,f⟩:=jj U
  revert k;show wA v (jL I rv q) λa vs m M hz rl k=>?_
  show k a vs l _ "list" "list_iterator" rfl M rfl (by rfl) hz rl hl ps t out f rfl (λn P V x Y=>ach x V Y) (λn P x Y=>CG ⟨_,x,rfl,m,rfl⟩ Y) λA I V Z=>?_
  show⟨_,En V I a Z vs,λh x j=>⟨⟨_,j,rfl,rfl⟩,⟨_,x,rfl,m,rfl⟩⟩⟩
 |tup l=>
  obtain⟨hl,h⟩:=iff h
  clear hQ;obtain⟨out,U,rfl⟩:=fX h
  obtain⟨ps,t,f⟩:=jj U
  clear h;obtain⟨rfl,a,vs,m,rfl,M,hz,rl⟩:=lR rv q
  show k a vs l _ "tuple" "tuple_iterator" rfl M rfl (by rfl) hz rl hl ps t out f rfl (λn P V x Y=>aci x V Y) (λn P x Y=>yw ⟨_,x,rfl,m,rfl⟩ Y) λA I V Z=>?_
  show⟨_,Walks.tuple V I a Z vs,λh x j=>⟨⟨_,j,rfl,rfl⟩,⟨_,x,rfl,m,rfl⟩⟩⟩
 |_=>show nn h
end
theorem aco:∀c:Fin 58,48<=c.val->PySem.intText? (⟨#[c.val]⟩:bu)=W ((c.val:Int)-48):=by decide +kernel
section
variable{w:aU}{A:bK}{E:az->aA->Prop}{g:G}{s:aA}{σ:St}{Q:az->aA->Prop}
theorem acp(I:Inv w g s σ)(f:R w g s.heap v d)(h:eY .int σ d=W r)(b:PE w g s σ r Q):V (Z pw w) A (b9 (aZ "int") [v]) Q E s:=by
 have h:mG .int (look σ d)=W r:=h
 generalize q:look σ d=y at h
 induction y using bJ with
 |str x=>
  show ee v (nT f q) λt z=>?_
  revert b;show ct r (fX h) λi a b=>?_
  obtain⟨k,a⟩:=iff a
  generalize j:x.cps.toList=l at a
  induction l using bH with
  |nil=>show nn a
  |cons c l=>induction l using bH with
   |cons=>show nn a
   |nil=>
    obtain⟨e,a⟩:=iff a
    clear h;revert b;show iw (L a) λb=>?_
    have ex:x=⟨#[c]⟩:=Og (![j])
    have:=aco ⟨c,by lia⟩ e.1
    show KIN.call_text (n:=(c:Int)-48) (by rwa[ex];show this) (by rwa[ex];show 1<=640;show dm _) ?_
    show b.here I (.int _ _) _
 |_=>show nn h
variable{env:c8}{ns:NS}{ρ:Fm}{n:Nat}
theorem acq(c:(b,f)∈k8):∀a,f≠ M a:=by
 have k:=bQ.mp (show(k8.all λm=>match m.2 with|.ref _=>Y|_=>U)=U from rfl) _ c
 intro a e;clear c;subst e;show ff k
theorem O0{f:K}(j:∀a,f≠ M a){es:List aX}{first:List K}{b:d6}(d:(jz b (ib es env)).any (·.1)=Y)
(h:aj (ar pw w) A (oh (jz b (ib es env))) (λi c=>aj (ar pw w) A (b9 f (first++i) []) Q E c) E s):
 aj (ar pw w) A (yy b f first (jz b (ib es env)) (vq b (vr [] env))) Q E s:=by
 show DF (P:=λz=>True) ?_ (λz z=>⟨.machine,aW (aY rfl),λA Q E s z k=>?_⟩) (FT d (ed h (λi c q=>⟨trivial,q⟩) λz z e=>e))
 .rwa [d];rfl
 .skip
  clear h;induction f<;>first|show aD k|show aF rfl (j _)
theorem O1{b:String}{f:K}{x:bu}{i a:d6}{d:List aX}(I:Inv w g s σ)(F:bo w g s.heap env ns ρ)(j:nW ns x b=U)(e:(b,f)∈k8)(k:(jz a (ib d env)).any (·.1)=Y)
(h:aj (ar pw w) A (oh (jz a (ib d env))) (λl c=>aj (ar pw w) A (b9 f l []) Q E c) E s):aj (ar pw w) A (bw (jc (fE x i) d [] a) env) Q E s :=
 yz (F.FJ I j e (O0 (first:=[]) (acq e) k h))
theorem O2{j:aX}{k:List aX}(I:Inv w g s σ)(F:bo w g s.heap env ns ρ)(l:jN ns b e=W (jc j k a c))(m:(b,f)∈k8)
(h:aj (ar pw w) A (bw (jc j k a c) env) (λv d=>aj (ar pw w) A (b9 f [v] []) Q E d) E s):aj (ar pw w) A (bw e env) Q E s:=by
 show Ey e (AF l) λy q o p=>?_
 show O1 I F p m rfl ?_
 show vn (ed h (λv d i=>vm i) λz z e=>e) rfl
theorem acr(h:mP "items" e=W (o,[]))
 (j:V (Z pw w) A (bw o env) (λf c=>∃a es m,f= M a/\c.heap.get? a=W (eb es m)/\V (Z pw w) A (b9 (bM "dict.items") [M a] []) Q E c) E s):V (Z pw w) A (bw e env) Q E s:=by
 show GJ (ns:=[]) (l:= aT) h rfl (ed j (λf c d q k=>?_) λz z e=>e)
 show Ez f d λa es m i p=>?_
 show yE ⟨_,i,rfl⟩ J8 Kj PySem.F.type_dict_items (λb e=>by injection e with e;subst e;show⟨_,i,rfl⟩) ?_
 show O0 (es:=[]) (first:=[M a]) (by simp) rfl (vm p)
end
section
variable{w:aU}{n:Nat}
theorem acs(h:jN c b e=W a):∃x f d,e= jc (fE x f) [a] [] d:=wz (AF h) λx f d e z=>x3 x f d e
theorem acu{E:az->aA->Prop}(L:c.units+400<cv)(x:c.handled=N)(I:Inv w g s f)(j:R w g s.heap v d)(h:eY mM f d=W r)(p:PE w g s f r b):
 V (Z pw w) c (b9 (bM "sorted") [v] []) b E s:=by
 have h:mG mM (look f d)=W r:=h
 generalize q:look f d=y at h
 induction y using bJ with
 |lst l=>
  obtain⟨z,k,rfl⟩:=fX h
  show wA v (jL I j q) λa M m B H t=>?_
  show Bh (by lia) I (abn B H t) (λJ e=>by clear t q h;subst e;show k) p
 |ji l=>
  obtain⟨z,k,rfl⟩:=fX h
  show oL (qp I j q) λa u m o i K=>?_;clear j;obtain rfl:=o
  show Bh (by lia) I (G5 (aY rfl) x I (aaO i K)) (λJ e=>by subst e;show k) p
 |_=>show nn h
theorem acv(h:isNm a e b=U):∃z p,e= fE z p/\nW a z b=U:=bW h λy c d=>x2 _ _ ⟨kJ c,d⟩
theorem acw(j:((jN c b e).bind λa=>(mP "items" a).bind λp=>if p.2.isEmpty then W p.1 else N)=W a):
 ∃k l m q,jN c b e=W (jc k l m q)/\mP "items" (jc k l m q)=W (a,[]):=by
 show bU (j) λu h f=>?_
 obtain⟨⟨o,t⟩,g,d⟩:=jj f
 obtain⟨r,d⟩:=iff d
 obtain rfl:=L d
 show jW (Fu g) λv s i z=>?_
 clear j d;obtain rfl:=kA.mp r
 clear f;subst i
 show x4 _ _ _ _ ⟨h,g⟩
theorem eK.u(b:eK n a)(h:k<=500):a.units+k<cv:=bY (fh (P h (br ..)) _) b.units
theorem uR(k:Nat)(h:k8[k]?=W p):p∈k8:=cN h
theorem acx(h:ux b t8 e=W a):∃y f z g c,e= jc (fE y f) [a,fE z g] [] c/\nW b y "isinstance" =U/\nW b z "tuple" =U:=by
 obtain⟨⟨p,q,r,c⟩,k,d⟩:=jj h
 obtain⟨⟨y,f⟩,l,d⟩:=jj d
 obtain⟨⟨s,t⟩,m,d⟩:=jj d
 obtain⟨i,d⟩:=iff d
 show jW (acv (au (au i).2).1) λz g o j=>?_
 show x5 y f z g c ⟨(uv k).trans (congr (congr (congr (aI _ (kJ l)) ((uo m).trans (congr (aI _ (L d)) (aI (· ::[]) o)))) (kA.mp (au (au i).2).2)) rfl),(au i).1,j⟩
section
variable{x:X}{e a:aX}{ns:NS}{env:c8}{ρ:Fm}{g:G}{s:aA}{σ σ':St}{d d1:D}{A:bK}{Q E:az->aA->Prop}
theorem acy(j:bA w n x)(l:a5 ns x a=U)(I:Inv w g s σ)(F:bo w g s.heap env ns ρ)(m:eK n A)(o:ev tb (run n) x ρ σ=W (d1,σ'))(p:PE w g s σ' d Q)(k:Nat)(q:k8[k]?=W (b,fv))(r:jN ns b e=W a)
(t:∀v f c,Inv w f c σ'->R w f c.heap v d1->PE w f c σ' d Q->aj (ar pw w) A (b9 fv [v] []) Q E c):aj (ar pw w) A (bw e env) Q E s :=
 AY j r l (uR k q) I F m o λv f c i h u=>t v f c (I.bz i h) u (p.step i)
theorem acz(l:bA w n x)(h:a5 ns x a=U)(I:Inv w g s σ)(F:bo w g s.heap env ns ρ)(m:eK n A)(o:ev tb (run n) x ρ σ=W (d1,σ'))(p:PE w g s σ' d Q)(q:ux ns t8 e=W a)(r:mG t8 (look σ' d1)=W d):V (Z pw w) A (bw e env) Q E s:=by
 obtain⟨y,B,z,k,t,rfl,i,j⟩:=acx q
 show O1 I F i (f:= bM "isinstance") (uR 8 rfl) (![((xc h).trans rfl:ib [a,fE z k] env=[(Y,bw a env),(Y,bw (fE z k) env)])]) (vn (l _ ns h I F m o λv H J c b u=>?_) (xc h))
 show vn ((F.step I c).FJ (I.bz c b) j (v:= aZ "tuple") (uR 1 rfl) (vm (ZV (I.bz c b) u r (p.step c)))) rfl
theorem acA(z:bA w n x)(B:a5 ns x a=U)(I:Inv w g s σ)(F:bo w g s.heap env ns ρ)(H:eK n A)(J:ev tb (run n) x ρ σ=W (d1,σ'))(K:PE w g s σ' d Q){b:String}{fv:az}(k:Nat)(L:k8[k]?=W (b,fv))
(M:((jN ns b e).bind λa=>(mP "items" a).bind λp=>if p.2.isEmpty then aa p.1 else ae)=aa a) {l:List (D×D)} (N:look σ' d1= dG l)
 (P:∀(f:G)(i:aA)(x:aR),Inv w f i σ'->qz w "dict_items" x f i (· =l.map λp=> aw [p.1,p.2])->PE w f i σ' d Q->aj (ar pw w) A (b9 fv [ao x] []) Q E i):aj (ar pw w) A (bw e env) Q E s:=by
 show wB (acw M) λY u Z p2 U V=>?_
 show O2 I F U (uR k L) (acr V (z _ ns B I F H J λv f i t c W=>?_))
 show Ez v (qp (I.bz t c) W N) λa u m q j=>?_
 show x3 a u m ⟨rfl,j.at_,ace q j.at_ ?_⟩
 have y:=cu.push i {cls:= aZ "dict_items",data:= dU #[ao a]}
 have r:=lU (g:=f) y []
 show P f _ _ ((I.bz t c).bz r (r6 (I.bz t c) y)) (aaS ⟨dF _ j.at_,j.sz,j.nd,j.re.cA (fr:=[]) (λb o X e=>dF _ e) λa h=>aF h bc⟩ ⟨_,dQ _ rfl,rfl,rfl⟩) ((K.step t).step r)
theorem acB(l:bA w n x)(m:a5 ns x a=U)(I:Inv w g s σ)(F:bo w g s.heap env ns ρ)(c:eK n A)(o:ev tb (run n) x ρ σ=W (d1,σ'))(p:PE w g s σ' d Q)(q:ux ns qm e=W a)(r:mG qm (look σ' d1)=W d):V (Z pw w) A (bw e env) Q E s:=by
 show bU (q) λu h b=>?_
 show Ex (acs b) λz B t i=>?_;obtain rfl:=i
 show O2 I F h (f:= bM "sorted") (uR 9 rfl) (AY l b m (f:= aZ "set") (uR 10 rfl) I F c o λv H J k j y=>acd (c.u (br ..)) c.hh (I.bz k j) y r (p.step k))
end
theorem acC(B:bA w n x):bA w n (fa f x):=λe W h K Y g s Z M d A Q E I F m z y=>
 ME (P:=λe=>aj (ar pw w) A (bw e K) Q E s) h λa o H=>by
 obtain⟨⟨d1,N⟩,J,z⟩:=jj z
 show eG (z) λr j U=>?_
 cases U
 have c:=λ{b fv}=>acy B H I F m J y (b:=b) (fv:=fv) (E:=E) (e:=e)
 have u:=λ{b fv}=>acA B H I F m J y (b:=b) (fv:=fv) (E:=E) (e:=e)
 induction f with
 |len=>show c 0 rfl o λv p t i k=>ZO i k j
 |tuple=>show c 1 rfl o λv p t i k=>ZQ i k j
 |sum=>show c 2 rfl o λv p t i k=>ZS m.hh i k j
 |max=>show c 3 rfl o λv p t i k=>ZT m.hh i k j
 |list=>show c 4 rfl o λv p t i k=>ZR i k j
 |dict=>show c 5 rfl o λv p t i k=>acn (m.u (br ..)) m.hh i k j
 |int=>show c 6 rfl o λv p t i k=>acp i k j
 |str=>show c 7 rfl o λv p t i k=>ZU i k j
 |sorted=>show c 9 rfl o λv p t i k=>acu (m.u (br ..)) m.hh i k j
 |isTup=>show acz B H I F m J y o j
 |sset=>show acB B H I F m J y o j
 |Ah=>
  show bU (j) λl q j=>?_
  clear c y z;revert u;show ct d (fX j) λes V u=>?_
  show u 9 rfl o (A9 q) λp t x i L=>Bh (m.u (br ..)) i (G5 (aW (aY rfl)) m.hh i L) (λds e=>e▸V)
 |listItems=>
  show bU (j) λl q j=>?_
  clear c y z;cases j
  show u 4 rfl o (A9 q) λp t x i L=>aaM (aW (aY rfl)) m.hh i L
end
theorem O3{e:aX}(h:[0,3,5,15].all (λk=> !om k e.ctorIdx)=U)(b:c8)(a:eT K):i6 e b a=(do let v <-a;jA e.pos;ie [v] (truthy v)):=by
 induction e using jE<;>first|rfl|show ff h
section
variable{w:aU}{n:Nat}
def xI(w:aU)(n:Nat)(x:X):Prop:=bA w n x/\gN w n x/\uK w n x
theorem gR(h:bA w n x)(a:[0,3,5,15].all (λk=> !om k (xk x))=U)(b:A6 x=Y):xI w n x :=
 ⟨h,FN h λz z q=>O3 (by rwa[xb q];show a),GF b⟩
theorem uS(h:bA w n x/\gN w n x)(a:A6 x=Y):xI w n x:=⟨h.1,h.2,GF a⟩
theorem O4(h:bA w n x)(u:uK w n x)(a:[0,3,5,15].all (λk=> !om k (xk x))=U):xI w n x :=
 ⟨h,FN h λz z q=>O3 (by rwa[xb q];show a),u⟩
theorem Bn(f:qy w n):∀x:X,xI w n x :=
 X.rec (motive_1:=xI w n) (motive_2:=λl=>nX w n l/\qx w n l) (motive_3:=xt w n) (motive_4:=jo w n) (gR WM rfl rfl) (λz=>gR WN rfl rfl) (λz=>gR WO rfl rfl) (λz=>gR WQ rfl rfl) (λz=>gR WR rfl rfl) (λz=>gR WV rfl rfl)
  (λz z a=>gR (WX a.1) rfl rfl) (λz z a b=>gR (W4 a.1 b.1) rfl rfl) (λz z a b=>gR (W5 a.1 b.1) rfl rfl) (λz z a b=>gR (W6 a.1 b.1) rfl rfl) (λz a=>gR (W7 a.1) rfl rfl)
  (λz z z a b=>gR (W8 a.1 b.1) rfl rfl) (λz a=>⟨MH a.1,FN (MH a.1) λe z h=>Mv (P:=λe=>∀(g:c8)(d:eT K),i6 e g d=(do let v <-d;jA e.pos;ie [v] (truthy v))) h λz z z z z=>rfl,GF rfl⟩) (λz a=>uS ⟨Xc a.1,Xd a.2.1⟩ rfl)
  (λz z z a b=>uS ⟨Xa a.1 b.1,Xb a.1 b.1⟩ rfl) (λz z z z z a b c=>uS ⟨Xj a.1 b.1 c.1,Xk a.1 b.1 c.1⟩ rfl) (λz z a b=>uS ⟨snd_and a.1 b.1,Xf a.2.1 b.2.1⟩ rfl) (λz z a b=>uS ⟨Xe a.1 b.1,Xg a.2.1 b.2.1⟩ rfl)
  (λz z z c a b=>uS ⟨Xh c.2.1 a.1 b.1,Xi c.2.1 a.2.1 b.2.1⟩ rfl) (λz a=>gR (Xn a.1) rfl rfl) (λz z a=>gR (Xq a.1) rfl rfl) (λz z a=>gR (aaB a) rfl rfl) (λz z a=>gR (aaD a.1) rfl rfl)
  (λz z z z z z a b c=>O4 (Zi a b.2 c.1) (Zk a b.2 c.1) rfl) (λz z z z z z a b c=>O4 (Zj a b c.1) (Zl a b c.1) rfl)
  (λz z a=>gR (aah f a.1) rfl rfl) (λz z z a b=>gR (aaj f a.1 b.1) rfl rfl) (λz z z a=>gR (aap f a.1) rfl rfl) (λz z a=>gR (acC a.1) rfl rfl) (λz z z a b=>gR (ZJ a.1 b.1) rfl rfl)
  ⟨Xl,MW⟩ (λz z a b=>⟨Xm a.1 b.1,XE a.2.1 b.2⟩) aax (λz z z a b c=>aay a.1 b.1 c) (λz a=>MU a.1) (λz a=>MV a.1) λz a=>NX a.1
theorem acD(a:qy w n)(t:T):uJ w n t:=by
 induction t with
 |var=>show YH
 |tup=>show YI
 |attr o=>show YL (Bn a o).1
 |item o i=>show YM (Bn a o).1 (Bn a i).1
theorem acE(e:qy w n)(l:CS):mW w n l :=
 have x:=Bn e
 have d:∀d:It,jo w n d:=λi=>by induction i using Am with|val y=>show MU (x y).1|range y=>show MV (x y).1|enum y=>show NX (x y).1
 CS.rec (motive_1:=ph w n) (motive_2:=mW w n) (λt y=>YZ (acD e t) (x y).1 (x y).2.2) (λy=>YQ (x y).1) (λy=>Yq (x y).1) (λc z z a b=>Yr (x c).2.1 a b) (λc z b=>Yt (x c).2.1 b) (λz i z b=>Yw (d i) b) Ys Yo (λz z a b=>Yp a b) l
end
theorem h1{P:dg}(e:((tS P).get b).getD jU=o)(a:b<670)(c:o.alive=U):(H1 P).get? b=W o:=by
 show(JJ _ _ _).mpr ⟨?_,c⟩
 unfold H1
 rwa[absHeap_at,aJ a,e]
theorem acF{x:FuncBody}{f:List dj->Bool}(h:(match x with|.stmts l=>f l|_=>Y)=U):∃l,x= .stmts l/\f l=U:=by
 induction x with
 |stmts l=>show⟨l,rfl,h⟩
 |expr _=>show ff h
theorem acG{x:K}(h:(match x with|.none=>U|_=>Y)=U):x= aN:=by
 induction x<;>first|show ff h|rfl
theorem acH{x:K}{n:Nat}(h:(match x with|.ref c=>c==n|_=>Y)=U):x= M n:=by
 induction x<;>first|show ff h|skip
 rwa[<-bX.mp h]
theorem acI(h:codeB q a=U):a.alive=U/\∃b t,a.data= dU b/\b[1]?=W (fU q t):=by
 show cR ((eu ..).mp h) λc h=>?_
 show⟨c,?_⟩
 generalize a.data=x at h
 induction x<;>first|show ff h|skip
 rename_i b
 have h:(match b[1]? with|some (fU s _)=>s==q|_=>Y)=U:=h
 generalize e:b[1]?=y at h
 rcases y with _|y
 .show ff h
 induction y<;>first|show ff h|show x2 b _ ⟨rfl,![e,<-bX.mp h]⟩
theorem acJ(Y:mD w h)(e:Ml w.params r=U):Bc w h r.1 r.2:=by
 obtain⟨e,k⟩:=(eu ..).mp e
 obtain⟨c,d⟩:=(eu ..).mp e
 show VI k λf g k=>?_
 show cR (au k) λk b=>cR (au k) λk i=>cR (au k) λk j=>cR (au k) λk m=>cR (au k) λk n=>cR (au k) λo p=>?_
 show aV (acF o) λl q s=>?_
 show cR (acI b) λa b=>nH b λu t v x=>?_
 show x3 _ f l ⟨Y _ _ (h1 rfl (bS c) d),g,q,bX.mp p,kA.mp n,acG m,bX.mp j,⟨_,_,u,t,acH i,Y _ _ (h1 rfl (bY (oj ..) (bS c)) a),v,x⟩,Z8 s⟩
theorem acK(Y:mD w h):∀f F,j4 f=W F->Bc w h f F:=λz z e=>acJ Y (bQ.mp (VJ w.params) _ (ue e))
theorem O5 :∀n,qy w n
 |0=>λf c i d g s j a A R I k l b m=>nn b
 |n+1=>aaf (λz F z=>acE (O5 n) F.bd) λf F e h Y=>acK Y f F e
theorem acL(Y:mD w h)(G:h.Ns lu a):a (a0 "law")=W (M 669):=by
 show kZ (G) λo g i c e z d=>?_
 have f:=Y 3 _ (h1 (P:=w.params) (o:=KX w.params) rfl (br ..) rfl)
 have b:h.get? 3=W o:=c
 rw[f]at b
 clear c;cases b
 rwa[<-d]
 clear d;cases e
 kernel_rfl
theorem acM{R:WRecords}(h:WShape.hasItems R a .int=U):∃l:List Int,a=l.map p8:=by
 induction a with
 |nil=>show⟨[],rfl⟩
 |cons d r b=>show dM (hasW_int (au h).1) λi e=>dM (b (au h).2) λl q=>⟨i::l,![e,q]⟩
theorem O6{l:List Int}(W:WellAll c h d (l.map p8)):RL w g h d (l.map aq):=by
 induction l generalizing d with
 |nil=>cases W;show .nil
 |cons i l e=>
  cases W with
  |cons a b=>
  have b:=e b
  clear e
  cases a
  show .cons (.int _ _) b
theorem acN{l:List Int}(h:PySem.Challenge.rw_pq0096_01.row.toRowW.pre.holds PySem.Challenge.rw_pq0096_01.row.toRowW.records {args:=[.list (l.map p8)]}=U):l.length<=63 :=
 have a:=(holds_andW (show WTm.holds _ (WTm.and (.not (.lt (.lit (p8 63)) (.len (.arg 0)))) (.lit (.bool U))) _=U from h)).1
 have b:(!I ((63:Int)<(l.map p8).length))=U:=(holdsW_of_value rfl).symm.trans a
 (bN p8 (as:=l))▸pY.mp (nE.mp (of_decide_eq_false ((sN _).mp b)))
theorem acO(H:∀l:List Int,l.length<=63->∃n y,n<=100/\run n 669 [ay (l.map aq)] []=aa (aM af,y)):PySem.Challenge.rw_pq0096_01.Holds:=by
 show Su λw M j mg mb z c a o pm cd V dV kV W Z hcr hdf t u args N as k A i h has=>?_
 have x:dk.1.name=a0 "law" :=by kernel_rfl
 have ha:a=669:=by
  rw[x,acL c z.T.g]at t
  injection t with e;injection e with e;show e.symm
 clear W t;subst ha
 obtain⟨P,m⟩:=pre_splitW k
 show oK (hasAllW_cons P) λd r K U h2=>?_;obtain rfl:=K
 have:=hasAllW_nil h2
 subst this
 revert i h m;show ee d (hasW_list U) λxs hi i h m=>?_
 clear P k A U;revert i h m;show gu xs (acM hi) λl i h m=>?_
 have hl:=acN m
 cases h with
 |cons hw B=>
 cases B
 cases hw with
 |list hat s=>
 rename_i la vs
 have OZ:vs.length=l.length:=by
  have:=(O6 (w:=w) (g:=⟨[],[]⟩) s).length;simpa using this
 have Q:∀a,¬(⟨[],[]⟩:G).Mt a:=λa q=>by
  rcases q with⟨p,m,_⟩|q
  .show aF ‹_› bc
  .show aF ‹_› bc
 have f:Inv w ⟨[],[]⟩ j []:=⟨⟨c,⟨mg,z.T.g⟩,⟨mb,z.T.b,z.T.builtins⟩,z.T.nolimit⟩,λa q=>aF q (Q a),by show bS ‹_›,⟨rfl,by simp,by simp,λa q=>by show bR q λp m Y=>?_;show bS ‹_›⟩⟩
 have rl:RL w ⟨[],[]⟩ j.heap [ao la] [ay (l.map aq)]:=.cons (.lst (n:=0) hat (Q _) (by rwa[ot];lia) (O6 s)) .nil
 show jW (H l hl) λn y hn J=>?_
 show vv (O5 n 669 _ _ _ f rl ⟨rfl,by show 301+4*n+8<1000;lia,by show 4+32*n+480<9900;lia⟩ J λv g' s' L sat rv=>?_)
 obtain rfl:=rv
 show⟨aY (x3 (eh af) (.bool af) ([]) ⟨rfl,λcls=>rfl,.bool af,?_,λY=>⟨kU,bS ‹_›⟩⟩),.of_keep λb o e=>L.ext.keep b o (λq=>by show bR q λp m Y=>?_;show aF ‹_› bc) (bS ‹_›) e,L.os,.of_eq (L.gens.trans u)⟩
 show(WShape.has [] (.bool af) .bool&&WTm.holds [] (.eq .res (.lit (.bool af))) {args:=[.list (l.map p8)],res:=aa (.bool af),after:=[.list (l.map p8)]})=af
 kernel_rfl
theorem O7(h:∀d∈b,f d a=W (g d,a)):nP f b a=W (b.filterMap g,a):=by
 induction b with
 |nil=>rfl
 |cons d r c=>
  show(f d a).bind _=_
  rwa[h d (a7 ..),c5,c λe i=>h e (bq _ i),nz]
  cases g d<;>rfl
theorem O8{n:Fm}(p:fJ tb a h n c=W (f,c))
(q:∀d∈f,∃l,dY k d (j.map λo=>o.bind λi=>(n[i]?).bind id)=aa l/\∃b,oQ tb a ifs l c=aa (b,c)/\(b=ah->g d=ae)/\(b=af->∃y,ev tb a e l c=aa (y,c)/\g d=aa y)):
 ev tb a (eH m j k h ifs e) n c=aa (if m then(ak c.length,c++[aO (f.filterMap g)])else(ay (f.filterMap g),c)):=by
 show(fJ tb a h n c).bind _=_
 rwa[p,c5,O7 (g:=g)]
 .rfl
 .intro d r
  obtain⟨l,s,b,t,u,v⟩:=q d r
  rwa[s,c5,t,c5]
  induction b with
  |false=>rwa[u rfl];rfl
  |true=>
   show aV (v rfl) λy w x=>?_
   show(ev tb a e l c).map _=_
   rwa[w,x];rfl
theorem Hj{ρ:Fm}(a:fJ tb cal it ρ σ=W (ds,σ))
(c:∀d∈ds,∃ρ',dY tg d (mp.map λo=>o.bind λi=>(ρ[i]?).bind id)=aa ρ'/\∃b,oQ tb cal ifs ρ' σ=aa (b,σ)/\(b=ah->g d=ae)/\(b=af->∃y,ev tb cal elt ρ' σ=aa (y,σ)/\g d=aa y)):
 ev tb cal (eH ah mp tg it ifs elt) ρ σ=aa (ay (ds.filterMap g),σ):=O8 a c
theorem O9{n:Fm}(p:fJ tb c k n a=W (b,a))
(q:∀d∈b,∃l,dY j d (h.map λo=>o.bind λi=>(n[i]?).bind id)=aa l/\ev tb c e l a=aa (g d,a)):
 ev tb c (eH m h j k aT e) n a=aa (if m then(ak a.length,a++[aO (b.map g)])else(ay (b.map g),a)):=by
 rwa[O8 (ifs:= aT) (g:=λd=>aa (g d)) p λd r=>by
  show aV (q d r) λl s t=>?_
  show⟨l,s,af,rfl,nofun,λz=>⟨_,t,rfl⟩⟩,show b.filterMap (λd=>aa (g d))=b.map g from congrFun (Jr (f:=g)) b]
theorem jq{ρ:Fm}(a:fJ tb cal it ρ σ=W (ds,σ))
(b:∀d∈ds,∃ρ',dY tg d (mp.map λo=>o.bind λi=>(ρ[i]?).bind id)=aa ρ'/\ev tb cal elt ρ' σ=aa (g d,σ)):
 ev tb cal (eH ah mp tg it aT elt) ρ σ=aa (ay (ds.map g),σ):=O9 a b
theorem acP{ρ:Fm}(a:fJ tb cal it ρ σ=W (ds,σ))
(b:∀d∈ds,∃ρ',dY tg d (mp.map λo=>o.bind λi=>(ρ[i]?).bind id)=aa ρ'/\ev tb cal elt ρ' σ=aa (g d,σ)):
 ev tb cal (eH af mp tg it aT elt) ρ σ=aa (ak σ.length,σ++[aO (ds.map g)]):=O9 a b
theorem xJ{f:Fm->St->Option (Option D×Fm×St)}(h:t a σ=W (aM Y,b)):jk t f (k+1) a σ=W (N,a,b):=by
 show iy (t a σ) _ _=_
 rwa[h];rfl
theorem xK{f:Fm->St->Option (Option D×Fm×St)}(h:t b σ=W (aM U,a))(e:f b a=W (N,c,d)):jk t f (k+1) b σ=jk t f k c d:=by
 show iy (t b σ) _ _=_
 rwa[h];show(f b a).bind _=_;rwa[e];rfl
theorem Bo(w:jk (ev tb a c) (ba tb a b) LF d e=W (N,ρ',σ')):ba tb a (cZ (.wO c b) l) d e=ba tb a l ρ' σ':=by
 show(jk (ev tb a c) (ba tb a b) LF d e).bind _=_
 rwa[w];rfl
theorem kP{ρ ρ':Fm}(e:fJ tb cal a ρ σ=W (ds,σ1))(w:loopGo (λd ρ σ=>(dY c d ρ).bind λρ=>ba tb cal b ρ σ) ds ρ σ1=W (N,ρ',σ')):ba tb cal (cZ (.loop c a b) l) ρ σ=ba tb cal l ρ' σ':=by
 show((fJ tb cal a ρ σ).bind _).bind _=_
 rewrite [e,c5,w];rfl
theorem dw{F:Fn}{ρ0 ρ':Fm}(b:ug.contains f=Y)(c:j4 f=W F)(e:F.ps.length=ds.length)(g:F.sl=Y)(a:(F.ps.zip ds).foldl (λr p=>r.set p.1 (W p.2)) (vJ F.ns N)=ρ0)
(i:r.getD cg=d)(h:ba tb (run n) F.bd ρ0 σ=aa (r,ρ',σ')):run (n+1) f ds σ=aa (d,σ'):=by
 rwa[Mm b]
 unfold mJ
 rwa[c,c5,aJ e,a,h,c5,g,i];rfl
theorem uT{F:Fn}{ρ0 ρ':Fm}(b:ug.contains f=Y)(c:j4 f=W F)(d:F.ps.length=ds.length)(e:F.sl=U)(a:(F.ps.zip ds).foldl (λr p=>r.set p.1 (W p.2)) (vJ F.ns N)=ρ0)
(h:ba tb (run n) F.bd ρ0 σ=aa (r,ρ',σ'))(g:iU σ (r.getD cg) σ'=q):run (n+1) f ds σ=q:=by
 rwa[Mm b]
 unfold mJ
 rwa[c,c5,aJ d,a,h,c5,e,<-g];rfl
theorem Hk(a:St)(n:Nat):look a (ak n)=a[n]?.elim (ak n) λo=>O.casesOn (motive:=λz=>D) o ay dG bh:=![]
theorem d7(h:σ[n]?=W (aO l)):look σ (ak n)= ay l:=![Hk,h]
theorem lZ(h:a[n]?=W (a8 l)):look a (ak n)= dG l:=![Hk,h]
theorem dD{n C:Nat}(h:σ[n]?=W (cz C l)):look σ (ak n)= bh C l:=![Hk,h]
section
variable{cal:mH}{ρ:Fm}{σ σ1 σ2 σ3:St}{d e r:D}
theorem aB(h:ρ[i]?=W (W d)):ev tb cal (ax i) ρ σ=W (d,σ):=![VQ,h]
theorem si(h:ev tb cal x ρ σ=W (d,σ1))(c:qj σ1 d=U)(a:wQ (look σ1 d) k=W r):ev tb cal (dZ x k) ρ σ=W (r,σ1):=by
 rwa[VR,h,c5,aJ c,a];rfl
theorem two{f:D->D->St->Option b}{q:Option b}(h:ev tb cal x ρ σ=W (d,σ1))(g:ev tb cal y ρ σ1=W (e,σ2))(a:f d e σ2=q):((ev tb cal x ρ σ).bind λr=>(ev tb cal y ρ r.2).bind λq=>f r.1 q.1 q.2)=q:=by
 rwa[h,c5,g];show a
theorem cX(h:ev tb cal x ρ σ=W (d,σ1))(g:ev tb cal y ρ σ1=W (e,σ2))(a:hM (look σ2 d) e=W r):ev tb cal (cK x y) ρ σ=W (r,σ2):=two (f:=λa b σ=>(hM (look σ a) b).map λd=>(d,σ)) h g (![a])
theorem qB(h:ev tb cal x ρ σ=W (d,σ1))(g:ev tb cal y ρ σ1=W (e,σ2))(a:rO d e=W r):ev tb cal (mL x y) ρ σ=W (r,σ2):=two (f:=λa b σ=>(rO a b).map λd=>(d,σ)) h g (![a])
theorem Bp(h:ev tb cal x ρ σ=W (d,σ1))(g:ev tb cal y ρ σ1=W (e,σ2))(a:rP d e=W r):ev tb cal (.lL x y) ρ σ=W (r,σ2):=two (f:=λa b σ=>(rP a b).map λd=>(d,σ)) h g (![a])
theorem et(h:ev tb cal x ρ σ=W (d,σ1))(g:ev tb cal y ρ σ1=W (e,σ2))(a:lM op (look σ2 d) (look σ2 e)=W r):ev tb cal (iV op x y) ρ σ=W (r,σ2):=two (f:=λa b σ=>(lM op (look σ a) (look σ b)).map λd=>(d,σ)) h g (![a])
theorem fb(h:ev tb cal x ρ σ=W (d,σ1))(g:ev tb cal y ρ σ1=W (e,σ2))(a:hK op (look σ2 d) (look σ2 e)=W r):ev tb cal (dR op x y) ρ σ=W (r,σ2):=two (f:=λa b σ=>(hK op (look σ a) (look σ b)).map λd=>(d,σ)) h g (![a])
theorem eD(h:ec tb cal l ρ σ=W (a,σ1)):ev tb cal (e0 l) ρ σ=W (aw a,σ1):=![VS,h]
theorem n7(h:ec tb cal l ρ σ=W (ds,σ1)):ev tb cal (mK Y l) ρ σ=W (ay ds,σ1):=![Mn,h]
theorem Bq(h:ec tb cal l ρ σ=W (a,σ1)):ev tb cal (mK U l) ρ σ=W (ak σ1.length,σ1++[aO a]):=![Mn,h]
theorem Pa:ev tb cal (t6 U iB) ρ σ=W (ak σ.length,σ++[a8 []]):=rfl
theorem acQ:ev tb cal (t6 Y iB) ρ σ=W (dG [],σ):=rfl
theorem fK:ec tb cal aT ρ σ=W ([],σ):=VW
theorem b8(h:ev tb cal x ρ σ=W (d,σ1))(g:ec tb cal l ρ σ1=W (a,σ2)):ec tb cal (aS x l) ρ σ=W (d::a,σ2):=by
 rwa[VX,h,c5,g];rfl
theorem bb(h:ev tb cal x ρ σ=W (d,σ1)):ec tb cal (aS x aT) ρ σ=W ([d],σ1):=b8 h fK
theorem jr(h:ec tb cal l ρ σ=W (a,σ1))(g:cal f a σ1=W (r,σ2)):ev tb cal (f6 f l) ρ σ=W (r,σ2):=by
 rwa[VT,h];show g
theorem c9{C f:Nat}(h:ev tb cal o ρ σ=W (d,σ1))(k:look σ1 d= bh C i)(m:rU C a=W f)(g:ec tb cal l ρ σ1=W (b,σ2))(c:cal f (d::b) σ2=W (r,σ3)):ev tb cal (dB a o l) ρ σ=W (r,σ3):=by
 rwa[VZ,h,c5,k];show(rU C a).bind _=_;rwa[m,c5,g];show c
theorem d4(h:ev tb cal x ρ σ=W (d,σ1))(a:eY f σ1 d=W r):ev tb cal (fa f x) ρ σ=W (r,σ1):=![VU,h,c5,a]
theorem gz(h:ev tb cal o ρ σ=W (d,σ1))(t:wR f (look σ1 d)=U)(g:ec tb cal l ρ σ1=W (b,σ2))(a:f5 f d b σ2=W (r,σ3)):ev tb cal (gL f o l) ρ σ=W (r,σ3):=by
 rwa[VV,h,c5,aJ t,g];show a
theorem b6(h:ev tb cal x ρ σ=W (d,σ1))(a:EL d=W l):fJ tb cal (dW x) ρ σ=W (l,σ1):=![VY,h,c5,a]
theorem acR(h:ev tb cal x ρ σ=W (aM b,σ1)):ev tb cal (.not x) ρ σ=W (aM (!b),σ1):=by rwa[V4,h];clear h;induction b<;>rfl
theorem Br(h:o=W (aM U,σ))(g:a σ=q):iy o a b=q:=by rwa[h];show g
theorem Hl(h:o=W (aM Y,σ))(g:b σ=q):iy o a b=q:=by rwa[h];show g
theorem Hm(h:ev tb cal x ρ σ=W (aM U,σ1))(g:ev tb cal y ρ σ1=q):ev tb cal (.ite x y z) ρ σ=q:=Br h g
theorem Hn(h:ev tb cal x ρ σ=W (aM Y,σ1))(g:ev tb cal z ρ σ1=q):ev tb cal (.ite x y z) ρ σ=q:=Hl h g
theorem acS(h:ev tb cal x ρ σ=W (aM Y,σ1)):ev tb cal (nR x y) ρ σ=W (aM Y,σ1):=Hl h rfl
theorem acT(h:ev tb cal x ρ σ=W (aM U,σ1))(g:ev tb cal y ρ σ1=q):ev tb cal (nR x y) ρ σ=q:=Br h g
variable{l:CS}{q:Option (Option D×Fm×St)}
theorem di(h:ev tb cal x ρ σ=W (d,σ1)):ba tb cal (cZ (.ret x) l) ρ σ=W (W d,ρ,σ1):=![V5,h]
theorem fw(h:ev tb cal x ρ σ=W (d,σ1))(s:kH tb cal t d ρ σ1=W (ρ',σ2))(g:ba tb cal l ρ' σ2=q):ba tb cal (cZ (jJ t x) l) ρ σ=q:=by
 rwa[V6,h,c5,s];show g
theorem d8(h:ev tb cal x ρ σ=W (d,σ1))(g:ba tb cal l (ρ.set i (W d)) σ1=q):ba tb cal (cZ (jJ (dH i) x) l) ρ σ=q:=fw h rfl g
theorem gA(h:ev tb cal x ρ σ=W (d,σ1))(g:ba tb cal l ρ σ1=q):ba tb cal (cZ (.ex x) l) ρ σ=q:=by
 rwa[V7,h];show g
theorem Bt(h:ev tb cal x ρ σ=W (aM U,σ1))(g:ba tb cal a ρ σ1=W (N,ρ',σ2))(k:ba tb cal l ρ' σ2=q):ba tb cal (cZ (k7 x a b) l) ρ σ=q:=by
 rwa[j2,Br h g];show k
theorem Pb(h:ev tb cal x ρ σ=W (aM Y,σ1))(g:ba tb cal b ρ σ1=W (N,c,σ2))(k:ba tb cal l c σ2=q):ba tb cal (cZ (k7 x a b) l) ρ σ=q:=by
 rwa[j2,Hl h g];show k
theorem de(h:ev tb cal x ρ σ=W (aM Y,σ1))(k:ba tb cal l ρ σ1=q):ba tb cal (cZ (k7 x a c7) l) ρ σ=q:=Pb h eI k
theorem mX(h:ev tb cal x ρ σ=W (aM U,σ1))(g:ba tb cal a ρ σ1=W (W d,p)):ba tb cal (cZ (k7 x a b) l) ρ σ=W (W d,p):=by
 rwa[j2,Br h g];rfl
theorem acU(h:∀d∈a,f d σ=W (g d,σ)):lP f a σ=W (a.flatMap g,σ):=by
 induction a with
 |nil=>rfl
 |cons d r b=>
  show(f d σ).bind _=_
  rwa[h d (a7 ..),c5,b λe c=>h e (bq _ c)];rfl
theorem acV(u:fJ tb cal j ρ σ=W (h,σ))
(v:∀d∈h,∃s t k,dY n d (m.map λo=>o.bind λi=>(ρ[i]?).bind id)=aa s/\fJ tb cal b s σ=aa (t,σ)/\g d=t.map k/\∀e∈t,∃p,dY a e s=aa p/\ev tb cal c p σ=aa (k e,σ))(w:(h.flatMap g).length<=hH):
 ev tb cal (t7 m n j a b c) ρ σ=aa (ay (h.flatMap g),σ):=by
 show(fJ tb cal j ρ σ).bind _=_
 rwa[u,c5,acU (g:=g)]
 .show aJ w
 .intro d x
  show kZ (v d x) λs t k y z A B=>?_
  rwa[y,c5,z,c5,O7 (g:=λe=>aa (k e)),A]
  .show aI (λl=>aa (l,σ)) (congrFun (Jr (f:=k)) t)
  .intro e Q
   show aV (B e Q) λp H I=>?_
   rwa[H,c5,I];rfl
theorem Ho(h:ev tb cal x ρ σ=W (aM b,σ)):oQ tb cal (aS x aT) ρ σ=W (b,σ):=by
 show iy (ev tb cal x ρ σ) _ _=_
 rwa[h];clear h;induction b<;>rfl
theorem Hp{f:D->Fm->St->Option (Option D×Fm×St)}:loopGo f [] ρ σ=W (N,ρ,σ):=rfl
theorem iE{f:D->Fm->St->Option (Option D×Fm×St)}(h:f d ρ σ=W (N,ρ',σ1))(g:loopGo f ds ρ' σ1=q):loopGo f (d::ds) ρ σ=q:=by
 show(f d ρ σ).bind _=_
 rwa[h];show g
theorem Pc(h:ev tb cal o ρ σ=W (r,σ1))(g:ev tb cal i ρ σ1=W (e,σ2))(k:t4 σ2 r e d=W c):kH tb cal (iz o i) d ρ σ=W (ρ,c):=two (f:=λa b σ=>(t4 σ a b d).map λσ=>(ρ,σ)) h g (![k])
theorem acW(h:ev tb cal o ρ σ=W (ak m,σ1))(g:ev tb cal i ρ σ1=W (iD j,σ2))(k:σ2[m]?=W (aO a))(b:j<a.length):kH tb cal (iz o i) d ρ σ=W (ρ,σ2.set m (aO (a.set j d))):=by
 show Pc h g ?_
 unfold t4;dsimp only;rwa[k]
 show aJ ⟨je j,b⟩
theorem qC{L:List (D×D)}(h:ev tb cal o ρ σ=W (ak m,σ1))(g:ev tb cal i ρ σ1=W (e,σ2))(k:σ2[m]?=W (a8 L))(a:keyOk L e=U)(b:L.length<1000000):kH tb cal (iz o i) d ρ σ=W (ρ,σ2.set m (a8 (cp L e d))):=by
 show Pc h g ?_
 unfold t4;dsimp only;rwa[k]
 show aJ ⟨a,e9 b (br ..)⟩
theorem Hq{m k C:Nat}{L:List (Nat×D)}(h:ev tb cal o ρ σ=W (ak m,σ1))(g:σ1[m]?=W (cz C L))(a:L.length<900)(b:C∈lN):kH tb cal (f7 o k) d ρ σ=W (ρ,σ1.set m (cz C (qe L k d))):=by
 show(ev tb cal o ρ σ).bind _=_
 rwa[h,c5]
 unfold EN;dsimp only;rwa[g];dsimp only;rwa[aJ ⟨a,b⟩];rfl
end
theorem at_of{f:Fm}{C m:Nat}(e:f[i]?=W (W (ak m)))(g:a[m]?=W (cz C c))(j:C∈lN)(h:c.lookup k=W d):ev tb b (dZ (ax i) k) f a=W (d,a) :=
 si (aB e) (by unfold qj;rwa[dD g];show dA ‹_›) (by rwa[dD g];show h)
theorem acX{l:Fm}{m n:m9}(o:ev tb g a l k=W (d,j))(p:ev tb g b l j=W (e,h))(q:hK m (look h d) (look h e)=W (aM U))(s:ev tb g c l h=W (f,i))(t:hK n (look i e) (look i f)=W r):
 ev tb g (t5 m n a b c) l k=W (r,i):=by
 show(ev tb g a l k).bind _=_
 rwa[o,c5,p,c5,q]
 show(ev tb g c l h).bind _=_
 rwa[s,c5,t];rfl
section
variable{σ:St}{d x:D}{l m:List D}{n:Nat}
theorem lj(h:look σ d= ay l):eY dO σ d=W (aq l.length):=by unfold eY;rwa[h];rfl
theorem Pd(h:look σ d= ay l):eY gM σ d=W (aw l):=by unfold eY;rwa[h];rfl
theorem Bu(h:look σ d= ay l)(s:gx l=W m):eY mM σ d=W (ay m):=by unfold eY;rwa[h];show(gx l).map _=_;rwa[s];rfl
theorem Pe{l:List (D×D)}(h:look σ d= dG l)(s:gx (l.map (·.1))=W m):eY mM σ d=W (ay m):=by unfold eY;rwa[h];show(gx _).map _=_;rwa[s];rfl
theorem Hr(h:look σ d= ay l)(s:qg l=W m):eY qm σ d=W (ay m):=by unfold eY;rwa[h];show(qg l).map _=_;rwa[s];rfl
theorem Hs(h:σ[n]?=W (aO l)):lO σ (ak n)=W (n,l):=by unfold lO;dsimp only;rwa[h]
theorem Pf{l:List (D×D)}(h:σ[n]?=W (a8 l)):oP σ (ak n)=W (n,l):=by unfold oP;dsimp only;rwa[h]
theorem mY(h:σ[n]?=W (aO l))(z:l.length<1000000):f5 iC (ak n) [x] σ=W (cg,σ.set n (aO (l++[x]))):=by
 show(lO σ (ak n)).bind _=_
 rwa[Hs h];show aJ (e9 z (br ..))
theorem Ht(h:σ[n]?=W (aO l))(g:look σ x= ay m)(z:l.length+m.length<=1000000)(a:x≠ak n):f5 qn (ak n) [x] σ=W (cg,σ.set n (aO (l++m))):=by
 show(lO σ (ak n)).bind _=_
 rwa[Hs h,c5,g];show aJ ⟨P z (br ..),a⟩
theorem Bv(h:σ[n]?=W (aO (l++[x]))):f5 .pop (ak n) [] σ=W (x,σ.set n (aO l)):=by
 show(lO σ (ak n)).bind _=_
 rwa[Hs h,c5,List.getLast?_append];dsimp only[List.getLast?_singleton,Ir];rwa[List.dropLast_concat];rfl
theorem l0(h:l[i]?=W d):hM (ay l) (iD i)=W d:=by
 show(if 0<=(i:Int)then l[(i:Int).toNat]? else N)=_
 rwa[aJ (je i)];show h
theorem xM(h:l[i]?=W d):hM (aw l) (iD i)=W d:=by
 show(if 0<=(i:Int)then l[(i:Int).toNat]? else N)=_
 rwa[aJ (je i)];show h
theorem pv{l:List (D×D)}(a:keyOk l x=U)(h:cw l x=W d):hM (dG l) x=W d:=by
 have:hM (dG l) x=if keyOk l x=U then cw l x else N:=by clear a h;induction x using bJ<;>rfl
 rwa[this,aJ a,h]
theorem px(z:l.length+m.length<=1000000):lM cV (aw l) (aw m)=W (aw (l++m)):=aJ (P z (br ..))
theorem Bw(z:l.length+m.length<=1000000):lM cV (ay l) (ay m)=W (ay (l++m)):=aJ (P z (br ..))
theorem qD:rO (aw (x::l)) (aq 1)=W (aw l):=by
 show(aJ ⟨by decide,?_⟩:(if(1:Int)<=1/\(1:Int).toNat<=(x::l).length then W (aw ((x::l).drop (1:Int).toNat))else N)=_)
 show ek (cQ _)
theorem Bx(a b:Nat):hK dh (iD a) (iD b)=W (aM (I (a=b))):=by
 show(cG (aq a) (aq b)).map aM=_
 show aI (λb=>W (aM b)) (decide_eq_decide.mpr JN)
theorem Pg(a b:Nat):hK gZ (iD a) (iD b)=W (aM (!I (a=b))):=by
 show(cG (aq a) (aq b)).map (λr=>aM (!r))=_
 show aI (λb=>W (aM (!b))) (decide_eq_decide.mpr JN)
theorem Ph(a b:Nat):hK iO (iD a) (iD b)=W (aM (I (a<b))):=aI (λb=>W (aM b)) (decide_eq_decide.mpr jd)
theorem acY(h:look σ d= aw l):eY dO σ d=W (iD l.length):=by unfold eY;rwa[h];rfl
theorem acZ :rP (aw l) (iD f)=W (aw (l.take f)):=(aJ (je f):(if 0<=(f:Int)then W (aw (l.take (f:Int).toNat))else N)=_)
theorem ac0(a b:String):hK dh (sD a) (sD b)=W (aM (I (a=b))):=by
 show(cG (bl (a0 a)) (bl (a0 b))).map aM=_
 show aI (λb=>W (aM b)) (decide_eq_decide.mpr (iff_of_eq (r0 a b)))
theorem ac1{l:List (D×D)}(h:look σ o= dG l)(a:keyOk l x=U):f5 .get o [x] σ=W ((cw l x).getD cg,σ):=by
 show(qi (look σ o)).bind _=_
 rwa[h];show aJ a
theorem Pj{l:List (D×D)}{v:D}(h:σ[n]?=W (a8 l))(a:keyOk l x=U)(z:l.length<1000000):f5 t9 (ak n) [x,v] σ=match cw l x with|some d=>W (d,σ)|none=>W (v,σ.set n (a8 (cp l x v))):=by
 show(oP σ (ak n)).bind _=_
 rwa[Pf h];show aJ ⟨a,e9 z (br ..)⟩
theorem ac2{l:List (D×D)}(h:σ[n]?=W (a8 l))(a:keyOk l (iD k)=U)(g:cw l (iD k)=W v):f5 .oN (ak n) [iD k] σ=W (v,σ.set n (a8 (hG l (iD k)))):=by
 show(oP σ (ak n)).bind _=_
 rwa[Pf h,c5,aJ ⟨a,rfl⟩,g];rfl
theorem ac3(k:Nat):hK .LtE (aq 0) (iD k)=W (aM U):=by
 show W (aM (I ((0:Int)<=k)))=_
 rwa[dA (je k)]
theorem Pk(h:a<b):hK iO (iD a) (iD b)=W (aM U):=![Ph,dA h]
theorem ac4(h:¬a<b):hK iO (iD a) (iD b)=W (aM Y):=![Ph,ef h]
theorem Hu(h:0<j):lM nA (aq i) (aq j)=W (aq (i%j)):=by
 show(if 0<j then W (aq (i%j))else N)=_
 show aJ h
theorem By(h:i.natAbs<2^30/\j.natAbs<2^30):lM .Mult (aq i) (aq j)=W (aq (i*j)):=by
 show(if i.natAbs<2^30/\j.natAbs<2^30 then W (aq (i*j))else N)=_
 show aJ h
theorem Hv(k:Nat):lM ox (aq (k+1)) (aq 1)=W (iD k):=by
 show W (aq ((k:Int)+1-1))=_
 rwa[DK];rfl
end
noncomputable def js(x y:D):D:= dG [(bl (a0 "x"),x),(bl (a0 "y"),y)]
theorem neT(f:D.bT l=U)(e:D.du l<=50)(h:c≠d\/l≠[]):cG (aw [bl (a0 c)]) (aw (bl (a0 d)::l))=W Y:=by
 rwa[AM rfl (by assumption) (by show dm _) (P (ek (jR.mpr ⟨cQ _,e⟩)) (by decide))]
 rwa[tc,decide_eq_false_iff_not,D.tup.injEq,oE,D.str.injEq,r0]
 rintro⟨a,b⟩
 rcases h with h|h
 .show h a
 .show h b.symm
theorem ac5(f:D.bT l=U)(e:D.du l<=50)(h:c≠d\/l≠[]):cG (aw (bl (a0 d)::l)) (aw [bl (a0 c)])=W Y:=by
 rwa[AM (by assumption) rfl (P (ek (jR.mpr ⟨cQ _,e⟩)) (by decide)) (by show dm _)]
 rwa[tc,decide_eq_false_iff_not,D.tup.injEq,oE,D.str.injEq,r0]
 rintro⟨a,b⟩
 rcases h with h|h
 .show h a.symm
 .show h b
structure Th where
 self:D
 f:Nat
 v0:String->Option D
 v1:String->D->Option D
 v2:String->D->D->Option D
 cm:Nat->D->Prop
theorem Bz{F:D->Option (D×St)}(h:F f=W (a,σ))(i:F c=W (b,σ)):∃g:D->D,(∀d∈[f,c],F d=W (g d,σ))/\[f,c].map g=[a,b]:=by
 show⟨λd=>if d=f then a else b,λd j=>?_,?_⟩
 .show F d=W (if d=f then a else b,σ)
  by_cases e:d=f
  .rwa [aJ e,e];show h
  .rwa [aL e,(bI.mp ((bB.mp j).resolve_left e))];show i
 .by_cases e:c=f
  .subst e
   have:a=b:=(cO (L (h.symm.trans i))).1
   simp[this]
  .simp [e]
theorem ac6(c:cG a x=W Y)(d:cG b x=W Y):memD x [a,b]=W Y:=by simp[memD,c,d]
section
variable{n C f:Nat}{σ:St}{A B env:D}{al:List (Nat×D)}
noncomputable def ac7:X:= eH Y [N,N,W 2,W 0] (bt 1) (dW (mL (ax 1) (dI 1))) aT (dB "value" (ax 3) (aS (ax 1) (aS (ax 2) aT)))
theorem qE{ks:List D}{ρ:Fm}(a:rU C "value" =W f) (h:∀d∈ks,run n f [bh C al,d,env] σ=W (g d,σ)) (b:ρ[0]?=W (W (bh C al))) (c:ρ[1]?=W (W (aw (t::ks)))) (e:ρ[2]?=W (W env)):
 ev tb (run n) ac7 ρ σ=W (ay (ks.map g),σ) :=
 jq (b6 (qB (aB c) cE (r:= aw ks) qD) rfl) λd i=>⟨[N,W d,W env,W (bh C al)],by show W [N,W d,ρ[2]?.bind id,ρ[0]?.bind id]=_;rwa[b,e];rfl,c9 (aB rfl) rfl a (b8 (aB rfl) (bb (aB rfl))) (h d i)⟩
theorem BA(a:D.bT l=U)(b:D.du l<=50)(d:l≠[]){ρ:Fm}(e:ρ[1]?=W (W (aw (sD op::l)))):ev tb (run n) (dR .In (ax 1) (e0 (aS (e0 (aS (fP c) aT)) (aS (e0 (aS (fP c') aT)) aT)))) ρ σ=W (aM Y,σ):=by
 show fb (aB e) (eD (b8 (eD (bb kL)) (bb (eD (bb kL))))) ?_
 show(memD (aw (sD op::l)) [aw [sD c],aw [sD c']]).map aM=_
 rwa[show memD (aw (sD op::l)) [aw [sD c],aw [sD c']]=W Y from ac6 (neT a b (aW d)) (neT a b (aW d))];rfl
def vF(s t e:D)(a b:Option D)(k:Nat):Fm:=W s::W t::W e::a::b::vJ k N
theorem Hw(e:op= "and" \/op= "or" \/op= "imp") (l:D.bT [A,B]=U) (m:D.du [A,B]<=50) (h:run n 554 [bh 557 [],A,env] σ=W (aM a,σ)) (i:run n 554 [bh 557 [],B,env] σ=W (aM b,σ)):
 run (n+1) 554 [bh 557 [],aw [bl (a0 op),A,B],env] σ=W (aM (if op= "and" then a&&b else if op= "or" then a||b else !a||b),σ):=by
 show aV (Bz (F:=λd=>run n 554 [bh 557 [],d,env] σ) h i) λg j k=>?_
 have c:=qE (t:=sD op) (ρ:=vF (bh 557 []) (aw [sD op,A,B]) env N N 1) (![]) j rfl rfl rfl
 rw[k]at c
 have t:=BA (n:=n) (σ:=σ) (op:=op) (c:= "true") (c':= "false") (ρ:=vF (bh 557 []) (aw [sD op,A,B]) env N N 1) l m (ne_of_beq_false rfl) rfl
 show dw (ρ':=vF (bh 557 []) (aw [sD op,A,B]) env (W (ay [aM a,aM b])) N 1) (r:=W (aM (if op= "and" then a&&b else if op= "or" then a||b else !a||b))) (by rfl) rfl rfl rfl rfl rfl ?_
 show ba tb (run n) E2 (vF (bh 557 []) (aw [sD op,A,B]) env N N 1) σ=_
 show de t ?_
 clear t;rcases e with rfl|rfl|rfl
 all_goals show de (σ1:=σ) (![]) (d8 c ?_)
 all_goals (clear h i c j k;induction a<;>kernel_rfl)
theorem tr1(h:D.bT [A]=U)(b:D.du [A]<=50)(e:run n 554 [bh 557 [],A,env] σ=W (aM a,σ)):
 run (n+1) 554 [bh 557 [],aw [bl (a0 "not"),A],env] σ=W (aM (!a),σ):=by
 have c:=qE (t:=sD "not") (ks:=[A]) (g:=λz=> aM a) (ρ:=vF (bh 557 []) (aw [sD "not",A]) env N N 1) (![]) (λd b=>by rwa[bI.mp b];show e) rfl rfl rfl
 have t:=BA (n:=n) (σ:=σ) (op:= "not") (c:= "true") (c':= "false") (ρ:=vF (bh 557 []) (aw [sD "not",A]) env N N 1) h b (by simp) rfl
 show dw (ρ':=vF (bh 557 []) (aw [sD "not",A]) env (W (ay [aM a])) N 1) (r:=W (aM (!a))) (by rfl) rfl rfl rfl rfl rfl ?_
 show ba tb (run n) E2 (vF (bh 557 []) (aw [sD "not",A]) env N N 1) σ=_
 show de t (de (σ1:=σ) (![]) (d8 c (by clear c e;induction a<;>kernel_rfl)))
theorem tr0(n:Nat)(σ:St)(a b:D):run (n+2) 554 [bh 557 [],aw [bl (a0 "x")],js a b] σ=W (a,σ):=![]
theorem ac8(n:Nat)(σ:St)(a b:D):run (n+2) 554 [bh 557 [],aw [bl (a0 "y")],js a b] σ=W (b,σ):=![]
theorem ac9(n:Nat)(σ:St)(e:D):run (n+2) 554 [bh 557 [],aw [bl (a0 "true")],e] σ=W (aM U,σ):=![]
theorem ada(n:Nat)(σ:St)(e:D):run (n+2) 554 [bh 557 [],aw [bl (a0 "false")],e] σ=W (aM Y,σ):=![]
noncomputable def gB(m:Int):D:= bh 531 [(18,aq m)]
theorem Hx{a:Fm}(b:a[0]?=W (W (gB m)))(c:0<m)(h:ev tb (run n) x a σ=W (aq i,σ)):ev tb (run n) (iV nA x (dZ (ax 0) 18)) a σ=W (aq (i%m),σ) :=
 et (e:= aq m) h (si (aB b) (by rfl) (by rfl)) (show lM nA (aq i) (aq m)=_ from Hu c)
theorem Pl{a m:Int}(c:0<m/\m<=3)(b:0<=a/\a<m):a.natAbs<2^30:=jd.mp (by rwa[Int.natAbs_of_nonneg b.1];show tB b.2 (tC c.2 (by decide)))
theorem Pm(h:0<m/\m<=3)(j:0<=a/\a<m)(k:0<=b/\b<m)(i:e= "add" \/e= "mul") (l:run n 528 [gB m,A,env] σ=W (aq a,σ)) (o:run n 528 [gB m,B,env] σ=W (aq b,σ)):
 run (n+1) 528 [gB m,aw [bl (a0 e),A,B],env] σ=W (aq (if e= "add" then(a+b)%m else a*b%m),σ):=by
 show aV (Bz (F:=λd=>run n 528 [gB m,d,env] σ) l o) λg p q=>?_
 have c:=qE (t:=sD e) (ρ:=vF (gB m) (aw [sD e,A,B]) env (W cg) N 3) (![]) p rfl rfl rfl
 rw[q]at c
 show dw (ρ':=vF (gB m) (aw [sD e,A,B]) env (W cg) (W (ay [aq a,aq b])) 3) (r:=W (aq (if e= "add" then(a+b)%m else a*b%m))) (by rfl) rfl rfl rfl rfl rfl ?_
 show ba tb (run n) E1 (vF (gB m) (aw [sD e,A,B]) env N N 3) σ=_
 rcases i with rfl|rfl
 .show d8 (d:= cg) (σ1:=σ) (![]) (de (σ1:=σ) (![]) (de (σ1:=σ) (![]) (d8 c (de (σ1:=σ) (![]) (di (Hx rfl h.1 (Hm (σ1:=σ) (![]) (by rfl))))))))
 .show d8 (d:= cg) (σ1:=σ) (![]) (de (σ1:=σ) (![]) (de (σ1:=σ) (![]) (d8 c (de (σ1:=σ) (![]) (di (Hx rfl h.1 (Hn (σ1:=σ) (![]) (et (cX (aB rfl) cE rfl) (cX (aB rfl) cE rfl) ?_))))))))
  show By ⟨Pl h j,Pl h k⟩
theorem ri1(b:0<m/\m<=3)(e:run n 528 [gB m,A,env] σ=W (aq a,σ)):
 run (n+1) 528 [gB m,aw [bl (a0 "neg"),A],env] σ=W (aq (-a%m),σ):=by
 have c:=qE (t:=sD "neg") (ks:=[A]) (g:=λz=> aq a) (ρ:=vF (gB m) (aw [sD "neg",A]) env (W cg) N 3) (![]) (λd h=>by rwa[bI.mp h];show e) rfl rfl rfl
 show dw (ρ':=vF (gB m) (aw [sD "neg",A]) env (W cg) (W (ay [aq a])) 3) (r:=W (aq (-a%m))) (by rfl) rfl rfl rfl rfl rfl ?_
 show ba tb (run n) E1 (vF (gB m) (aw [sD "neg",A]) env N N 3) σ=_
 show d8 (d:= cg) (σ1:=σ) (![]) (de (σ1:=σ) (![]) (de (σ1:=σ) (![]) (d8 c (mX (σ1:=σ) (![]) (di (Hx rfl b.1 (by rfl)))))))
theorem ri0(n:Nat)(σ:St)(a b:D)(m:Int):run (n+2) 528 [gB m,aw [bl (a0 "x")],js a b] σ=W (a,σ):=![]
theorem adb(n:Nat)(σ:St)(a b:D)(m:Int):run (n+2) 528 [gB m,aw [bl (a0 "y")],js a b] σ=W (b,σ):=![]
theorem ade(n:Nat)(σ:St)(a b:D):run (n+2) 528 [gB 2,aw [bl (a0 "0")],js a b] σ=W (aq 0,σ):=![]
theorem adf(n:Nat)(σ:St)(a b:D):run (n+2) 528 [gB 3,aw [bl (a0 "0")],js a b] σ=W (aq 0,σ):=![]
theorem Pn(a:D.bT l=U)(b:D.du l<=50)(c:l≠[]){ρ:Fm}(d:ρ[1]?=W (W (aw (sD op::l)))):ev tb (run n) (dR dh (ax 1) (e0 (aS (fP "nil") aT))) ρ σ=W (aM Y,σ):=by
 show fb (aB d) (eD (bb kL)) ?_
 show(cG (aw (sD op::l)) (aw [sD "nil"])).map aM=_
 rwa[show cG (aw (sD op::l)) (aw [sD "nil"])=W Y from ac5 a b (aW c)];rfl
theorem Po(o:a.length+b.length<1000000)(e:op= "app" \/op= "cons") (h:D.bT [A,B]=U) (i:D.du [A,B]<=50) (j:run n 580 [bh 583 [],A,env] σ=W (aw a,σ)) (k:run n 580 [bh 583 [],B,env] σ=W (aw b,σ)):
 run (n+1) 580 [bh 583 [],aw [bl (a0 op),A,B],env] σ=W (aw (if op= "app" then a++b else aw a::b),σ):=by
 show aV (Bz (F:=λd=>run n 580 [bh 583 [],d,env] σ) j k) λg l m=>?_
 have c:=qE (t:=sD op) (ρ:=vF (bh 583 []) (aw [sD op,A,B]) env N N 2) (![]) l rfl rfl rfl
 rw[m]at c
 have t:=Pn (n:=n) (σ:=σ) (op:=op) (ρ:=vF (bh 583 []) (aw [sD op,A,B]) env N N 2) h i (ne_of_beq_false rfl) rfl
 show dw (ρ':=vF (bh 583 []) (aw [sD op,A,B]) env (W (ay [aw a,aw b])) N 2) (r:=W (aw (if op= "app" then a++b else aw a::b))) (by rfl) rfl rfl rfl rfl rfl ?_
 show ba tb (run n) E3 (vF (bh 583 []) (aw [sD op,A,B]) env N N 2) σ=_
 show de t ?_
 clear t;rcases e with rfl|rfl
 .show de (σ1:=σ) (![]) (d8 c (de (σ1:=σ) (![]) (de (σ1:=σ) (![]) (di (Hn (σ1:=σ) (![]) (et (cX (aB rfl) cE rfl) (cX (aB rfl) cE rfl) ?_))))))
  show(px (eL ‹_›)).trans rfl
 .show de (σ1:=σ) (![]) (d8 c (de (σ1:=σ) (![]) (de (σ1:=σ) (![]) (di (Hm (σ1:=σ) (![]) (et (eD (bb (cX (aB rfl) cE rfl))) (cX (aB rfl) cE rfl) ?_))))))
  show(px (by show 1+b.length<=_;lia)).trans rfl
theorem lv1(e:D.bT [A]=U)(b:D.du [A]<=50)(h:run n 580 [bh 583 [],A,env] σ=W (aw a,σ)):
 run (n+1) 580 [bh 583 [],aw [bl (a0 "rev"),A],env] σ=W (aw a.reverse,σ):=by
 have c:=qE (t:=sD "rev") (ks:=[A]) (g:=λz=> aw a) (ρ:=vF (bh 583 []) (aw [sD "rev",A]) env N N 2) (![]) (λd b=>by rwa[bI.mp b];show h) rfl rfl rfl
 have t:=Pn (n:=n) (σ:=σ) (op:= "rev") (ρ:=vF (bh 583 []) (aw [sD "rev",A]) env N N 2) e b (by simp) rfl
 show dw (ρ':=vF (bh 583 []) (aw [sD "rev",A]) env (W (ay [aw a])) N 2) (r:=W (aw a.reverse)) (by rfl) rfl rfl rfl rfl rfl ?_
 show ba tb (run n) E3 (vF (bh 583 []) (aw [sD "rev",A]) env N N 2) σ=_
 show de t (de (σ1:=σ) (![]) (d8 c (de (σ1:=σ) (![]) (mX (σ1:=σ) (![]) (di (by rfl))))))
theorem li0(n:Nat)(σ:St)(a b:D):run (n+2) 580 [bh 583 [],aw [bl (a0 "x")],js a b] σ=W (a,σ):=![]
theorem adg(n:Nat)(σ:St)(a b:D):run (n+2) 580 [bh 583 [],aw [bl (a0 "y")],js a b] σ=W (b,σ):=![]
theorem adh(n:Nat)(σ:St)(e:D):run (n+2) 580 [bh 583 [],aw [bl (a0 "nil")],e] σ=W (aw [],σ):=![]
theorem Hy(e:op= "union" \/op= "meet" \/op= "less") (h:D.bT [A,B]=U) (i:D.du [A,B]<=50) (j:run n 613 [bh 616 [(19,aq 3)],A,env] σ=W (aq a,σ)) (k:run n 613 [bh 616 [(19,aq 3)],B,env] σ=W (aq b,σ)):
 run (n+1) 613 [bh 616 [(19,aq 3)],aw [bl (a0 op),A,B],env] σ=W (aq (if op= "union" then p6 a b else if op= "meet" then mw a b else mw a (3-b)),σ):=by
 show aV (Bz (F:=λd=>run n 613 [bh 616 [(19,aq 3)],d,env] σ) j k) λg l m=>?_
 have c:=qE (t:=sD op) (ρ:=vF (bh 616 [(19,aq 3)]) (aw [sD op,A,B]) env N N 1) (![]) l rfl rfl rfl
 rw[m]at c
 have t:=BA (n:=n) (σ:=σ) (op:=op) (c:= "none") (c':= "all") (ρ:=vF (bh 616 [(19,aq 3)]) (aw [sD op,A,B]) env N N 1) h i (ne_of_beq_false rfl) rfl
 show dw (ρ':=vF (bh 616 [(19,aq 3)]) (aw [sD op,A,B]) env (W (ay [aq a,aq b])) N 1) (r:=W (aq (if op= "union" then p6 a b else if op= "meet" then mw a b else mw a (3-b)))) (by rfl) rfl rfl rfl rfl rfl ?_
 show ba tb (run n) E5 (vF (bh 616 [(19,aq 3)]) (aw [sD op,A,B]) env N N 1) σ=_
 show de t ?_
 clear t;rcases e with rfl|rfl|rfl
 all_goals show de (σ1:=σ) (![]) (d8 c ![])
theorem se1(e:D.bT [A]=U)(b:D.du [A]<=50)(h:run n 613 [bh 616 [(19,aq 3)],A,env] σ=W (aq a,σ)):
 run (n+1) 613 [bh 616 [(19,aq 3)],aw [bl (a0 "not"),A],env] σ=W (aq (3-a),σ):=by
 have c:=qE (t:=sD "not") (ks:=[A]) (g:=λz=> aq a) (ρ:=vF (bh 616 [(19,aq 3)]) (aw [sD "not",A]) env N N 1) (![]) (λd b=>by rwa[bI.mp b];show h) rfl rfl rfl
 have t:=BA (n:=n) (σ:=σ) (op:= "not") (c:= "none") (c':= "all") (ρ:=vF (bh 616 [(19,aq 3)]) (aw [sD "not",A]) env N N 1) e b (by simp) rfl
 show dw (ρ':=vF (bh 616 [(19,aq 3)]) (aw [sD "not",A]) env (W (ay [aq a])) N 1) (r:=W (aq (3-a))) (by rfl) rfl rfl rfl rfl rfl ?_
 show ba tb (run n) E5 (vF (bh 616 [(19,aq 3)]) (aw [sD "not",A]) env N N 1) σ=_
 show de t (de (σ1:=σ) (![]) (d8 c ![]))
theorem se0(n:Nat)(σ:St)(a b:D):run (n+2) 613 [bh 616 [(19,aq 3)],aw [bl (a0 "x")],js a b] σ=W (a,σ):=![]
theorem adi(n:Nat)(σ:St)(a b:D):run (n+2) 613 [bh 616 [(19,aq 3)],aw [bl (a0 "y")],js a b] σ=W (b,σ):=![]
theorem adj(n:Nat)(σ:St)(e:D):run (n+2) 613 [bh 616 [(19,aq 3)],aw [bl (a0 "none")],e] σ=W (aq 0,σ):=![]
theorem adk(n:Nat)(σ:St)(e:D):run (n+2) 613 [bh 616 [(19,aq 3)],aw [bl (a0 "all")],e] σ=W (aq 3,σ):=![]
end
inductive Pt where
 |var (x:String)|c0 (op:String)|c1 (op:String) (a:Pt)|c2 (op:String) (a b:Pt)
 deriving DecidableEq
end Pq
open Pq.Pt renaming var->dE,c2->fc,c0->jt,c1->ju,casesOn->sj
namespace Pq
noncomputable def Pt.toD:Pt->D
 |.var x=> aw [bl (a0 x)]
 |.c0 c=> aw [bl (a0 c)]
 |.c1 c a=> aw [bl (a0 c),a.toD]
 |.c2 c a b=> aw [bl (a0 c),a.toD,b.toD]
noncomputable def Pt.dep:Pt->Nat
 |.var _=>1
 |.c0 _=>1
 |.c1 _ a=>a.dep+1
 |.c2 _ a b=>hA a.dep b.dep+1
theorem Pt.bF(t:Pt):t.toD.bF=U/\t.toD.kd=t.dep:=by
 induction t with
 |var _=>show⟨rfl,rfl⟩
 |c0 _=>show⟨rfl,rfl⟩
 |c1 _ a i=>show⟨dN i.1 rfl,aI (· +1) ((ta _).trans ((C4 _).trans i.2))⟩
 |c2 _ a b i j=>show⟨dN i.1 (dN j.1 rfl),aI (· +1) ((ta _).trans (by rwa[<-i.2,<-j.2];show aI (hA a.toD.kd) (C4 _)))⟩
theorem Pt.Hz{t:Pt}(h:t.dep<=12):t.toD.kd<=40:=t.bF.2▸P h (br ..)
noncomputable def dX(T:Th)(ρ:String->Option D):Pt->Option D
 |.var x=>ρ x
 |.c0 c=>(T.v0 c).or (ρ c)
 |.c1 c a=>(dX T ρ a).bind (T.v1 c)
 |.c2 c a b=>(dX T ρ a).bind λx=>(dX T ρ b).bind (T.v2 c x)
noncomputable def Pt.gr:Pt->Bool
 |.var _=>Y
 |.c0 _=>U
 |.c1 _ a=>a.gr
 |.c2 _ a b=>a.gr&&b.gr
noncomputable def hV :List (String×b)->String->Option b
 |[],_=>N
 |(k,a)::l,s=>if s=k then W a else hV l s
noncomputable def tabS(P:String->b->Prop):List (String×b)->Prop
 |[]=>True
 |(k,a)::l=>P k a/\tabS P l
theorem gC{P:String->b->Prop} :hV l s=W a->tabS P l->P s a:=by
 induction l with
 |nil=>show nn
 |cons p l c=>
  show(if _ then _ else _)=_->_/\_->_
  split
  .rename_i h;intro e q;clear c;cases e;show h▸q.1
  .show λe q=>c e q.2
theorem adl(m:List (String×a))(s:String)(l:List (String×a)):(hV l s).or (hV m s)=hV (l++m) s:=by
 induction l with
 |nil=>rfl
 |cons p l b=>
  show(if _ then _ else _:Option a).or _=if _ then _ else _
  split
  .rfl
  .show b
def xy(x y:D)(a:String):Option D:=hV [("x",x),("y",y)] a
structure Th.Ok (T:Th):Prop where
 lo:T.self.lo 0=af
 leaf:∀n σ x y op d,(T.v0 op).or (xy x y op)=aa d->run (n+2) T.f [T.self,aw [bl (a0 op)],js x y] σ=aa (d,σ)
 one:∀n σ op A env k a d,A.bF=af->A.kd<=40->k<=12->T.cm k a->T.v1 op a=aa d->run n T.f [T.self,A,env] σ=aa (a,σ)->run (n+1) T.f [T.self,aw [bl (a0 op),A],env] σ=aa (d,σ)
 two:∀n σ op A B env k a b d,A.bF=af->A.kd<=40->B.bF=af->B.kd<=40->k<=12->T.cm k a->T.cm k b->T.v2 op a b=aa d->run n T.f [T.self,A,env] σ=aa (a,σ)->run n T.f [T.self,B,env] σ=aa (b,σ) ->
  run (n+1) T.f [T.self,aw [bl (a0 op),A,B],env] σ=aa (d,σ)
 uU:∀op d,T.v0 op=aa d->T.cm 1 d
 xN:∀k op a d,T.cm k a->T.v1 op a=aa d->T.cm (k+1) d
 xO:∀k op a b d,T.cm k a->T.cm k b->T.v2 op a b=aa d->T.cm (k+1) d
 up:∀k m d,T.cm k d->k<=m->T.cm m d
theorem xP{T:Th}(h:T.Ok)(g:∀x d,c x=W d->T.cm (j+1) d)(t:Pt):∀(d:D),dX T c t=W d->T.cm (t.dep+j) d:=by
 induction t with
 |var x=>showλd e=>ky j 1▸g x d e
 |c0 f=>
  intro d e
  have e:(T.v0 f).or (c f)=W d:=e
  generalize q:T.v0 f=i;induction i with
  |some p=>show h.up 1 _ _ (h.uU f _ (by rw[q]at e;show e▸q)) (ew 1 j)
  |none=>rw[q]at e;show ky j 1▸g f d e
 |c1 f a n=>
  intro d e
  show bU (e) λx k e=>?_
  show(gG a.dep 1 j)▸h.xN _ f x d (n x k) e
 |c2 f a b l m=>
  intro d e
  show bU (e) λx k e=>?_
  show bU (e) λy o e=>?_
  show(gG (hA a.dep b.dep) 1 j)▸h.xO _ f x y d (h.up _ _ _ (l x k) (kS (nr ..) j)) (h.up _ _ _ (m y o) (kS (nt ..) j)) e
theorem Pp{P:D->Prop}(e:xy x y a=W d)(b:P x)(c:P y):P d:=gC (P:=λz d=>P d) e ⟨b,c,trivial⟩
theorem adm{T:Th}(h:T.Ok)(u:T.cm 1 x)(w:T.cm 1 y)(j:St)(t:Pt):∀(d:D)(n:Nat),t.gr=U->t.dep<=12->t.dep+1<=n->dX T (xy x y) t=W d->run n T.f [T.self,t.toD,js x y] j=W (d,j):=by
 have g:∀z d,xy x y z=W d->T.cm (0+1) d:=λz d e=>Pp e u w
 induction t with
 |var _=>showλZ Z i=>ff i
 |c0 k=>
  intro d n Z Z c e
  induction n using dS with
  |zero=>show aF c (lA _)
  |succ m=>
   induction m using dS with
   |zero=>show aF (lB c) (lA _)
   |succ m=>show h.leaf m j x y k d e
 |c1 k a A=>
  intro d n i f c e
  induction n using dS with
  |zero=>show aF c (lA _)
  |succ m=>
   show bU (e) λv l e=>?_
   show h.one m j k a.toD _ a.dep v d a.bF.1 (Pt.Hz (mh f)) (mh f) (xP h g a v l) e (A v m i (mh f) (lB c) l)
 |c2 k a b q r=>
  intro d n i f c e
  induction n using dS with
  |zero=>show aF c (lA _)
  |succ m=>
   have o:=nr a.dep b.dep
   have p:=nt a.dep b.dep
   have f:=mh f
   have c:=lB c
   show bU (e) λv l e=>?_
   show bU (e) λz s e=>?_
   show h.two m j k a.toD b.toD _ (hA a.dep b.dep) v z d a.bF.1 (Pt.Hz (P o f)) b.bF.1 (Pt.Hz (P p f)) f (h.up _ _ _ (xP h g a v l) o) (h.up _ _ _ (xP h g b z s) p) e (q v m (au i).1 (P o f) (P (ek o) c) l) (r z m (au i).2 (P p f) (P (ek p) c) s)
def qF:Th where
 self:= bh 557 []
 f:=554
 v0:=hV [("true",aM U),("false",aM Y)]
 v1 c a:=match a with|.bool b=>hV [("not",aM (!b))] c|_=>N
 v2 c a b:=match a,b with|.bool a,aM b=>hV [("and",aM (a&&b)),("or",aM (a||b)),("imp",aM (!a||b))] c|_,_=>N
 cm _ d:=∃b,d= aM b
def l5(m:Int):Th where
 self:=gB m
 f:=528
 v0:=hV [("0",aq 0)]
 v1 c a:=match a with|.int a=>hV [("neg",aq (-a%m))] c|_=>N
 v2 c a b:=match a,b with|.int a,aq b=>hV [("add",aq ((a+b)%m)),("mul",aq (a*b%m))] c|_,_=>N
 cm _ d:=∃i,d= aq i/\0<=i/\i<m
def lk:Th where
 self:= bh 583 []
 f:=580
 v0:=hV [("nil",aw [])]
 v1 c a:=match a with|.tup a=>hV [("rev",aw a.reverse)] c|_=>N
 v2 c a b:=match a,b with|.tup a,aw b=>hV [("app",aw (a++b)),("cons",aw (aw a::b))] c|_,_=>N
 cm k d:=∃l,d= aw l/\D.bT l=U/\D.du l<=k/\l.length<=2^k
def mZ:Th where
 self:= bh 616 [(19,aq 3)]
 f:=613
 v0:=hV [("none",aq 0),("all",aq 3)]
 v1 c a:=match a with|.int a=>hV [("not",aq (3-a))] c|_=>N
 v2 c a b:=match a,b with|.int a,aq b=>hV [("union",aq (p6 a b)),("meet",aq (mw a b)),("less",aq (mw a (3-b)))] c|_,_=>N
 cm _ d:=∃i,d= aq i/\0<=i/\i<=3
theorem qG(h:a.bF=U)(k:a.kd<=40):D.bT [a]=U/\D.du [a]<=50:=⟨dN h rfl,jR.mpr ⟨P k (br ..),cQ _⟩⟩
theorem HA(h:b.bF=U)(k:b.kd<=40)(c:a.bF=U)(d:a.kd<=40):D.bT [b,a]=U/\D.du [b,a]<=50:=⟨dN h (qG c d).1,jR.mpr ⟨P k (br ..),(qG c d).2⟩⟩
theorem BB{T:Th}(b:T.v0=hV tab){P:String->D->Prop}(h:(T.v0 a).or (xy x y a)=W d)(q:tabS P (tab++[("x",x),("y",y)])):P a d:=by
 rw[b,xy,adl]at h;show gC h q
theorem okT:qF.Ok where
 lo:=rfl
 leaf n c x y e d h:=BB (tab:=[("true",aM U),("false",aM Y)]) rfl h (P:=λe d=>run (n+2) 554 [bh 557 [],aw [bl (a0 e)],js x y] c=W (d,c)) ⟨ac9 n c _,ada n c _,tr0 n c _ _,ac8 n c _ _,trivial⟩
 one n c e A f k a d l m q g j i:=by
  revert j i;show gu a g λb j i=>?_
  show gC (P:=λe d=>run (n+1) 554 [bh 557 [],aw [bl (a0 e),A],f] c=W (d,c)) j ⟨tr1 (qG l m).1 (qG l m).2 i,trivial⟩
 two n c e A B f k a b d l m r s q g o j i p:=by
  obtain⟨a,rfl⟩:=g
  obtain⟨b,rfl⟩:=o
  have K:=HA l m r s
  show gC (P:=λe d=>run (n+1) 554 [bh 557 [],aw [bl (a0 e),A,B],f] c=W (d,c)) j
   ⟨Hw (aY rfl) K.1 K.2 i p,Hw (aW (aY rfl)) K.1 K.2 i p,Hw (aW (aW rfl)) K.1 K.2 i p,trivial⟩
 uU e d h:=gC (P:=λz d=>qF.cm 0 d) h ⟨⟨_,rfl⟩,⟨_,rfl⟩,trivial⟩
 xN k e a d g h:=by
  revert h;show gu a g λb h=>?_
  show gC (P:=λz d=>qF.cm 0 d) h ⟨⟨_,rfl⟩,trivial⟩
 xO k e a b d g o h:=by
  obtain⟨a,rfl⟩:=g
  obtain⟨b,rfl⟩:=o
  show gC (P:=λz d=>qF.cm 0 d) h ⟨⟨_,rfl⟩,⟨_,rfl⟩,⟨_,rfl⟩,trivial⟩
 up _ _ _ h _:=h
theorem okR(t:m=2\/m=3):(l5 m).Ok:=by
 have f:0<m/\m<=3:=t.elim (λe=>by rwa[e];decide) λe=>by rwa[e];decide
 have q:=f.1
 have r:=λi:Int=>(⟨i%m,rfl,DM _ (DI q),DN _ q⟩:(l5 m).cm 0 (aq (i%m)))
 show{
 lo:=rfl
 leaf n c x y g d h:=BB (tab:=[("0",aq 0)]) rfl h (P:=λg d=>run (n+2) 528 [gB m,aw [bl (a0 g)],js x y] c=W (d,c)) ⟨by
  clear f r q h;rcases t with rfl|rfl
  .show ade n c _ _
  .show adf n c _ _,ri0 n c _ _ m,adb n c _ _ m,trivial⟩
 one n c g A j k a d z Q hk l p o:=by
  revert p o;show ee a l λb Z p o=>?_
  show gC (P:=λg d=>run (n+1) 528 [gB m,aw [bl (a0 g),A],j] c=W (d,c)) p ⟨ri1 f o,trivial⟩
 two n c g A B j k a b d z Q H I hk l s p o u:=by
  obtain⟨a,rfl,v⟩:=l
  obtain⟨b,rfl,w⟩:=s
  show gC (P:=λg d=>run (n+1) 528 [gB m,aw [bl (a0 g),A,B],j] c=W (d,c)) p ⟨Pm f v w (aY rfl) o u,Pm f v w (aW rfl) o u,trivial⟩
 uU g d h:=gC (P:=λZ d=>(l5 m).cm 0 d) h ⟨⟨0,rfl,p0 _,q⟩,trivial⟩
 xN k g a d l h:=by
  revert h;show ee a l λb Z h=>?_
  show gC (P:=λZ d=>(l5 m).cm 0 d) h ⟨r _,trivial⟩
 xO k g a b d l s h:=by
  obtain⟨a,rfl,Z⟩:=l
  obtain⟨b,rfl,Z⟩:=s
  show gC (P:=λZ d=>(l5 m).cm 0 d) h ⟨r _,r _,trivial⟩
 up _ _ _ h _:=h}
theorem HB(b:D.bT m=U)(l:List D):D.bT l=U->D.bT (l++m)=U/\D.du (l++m)=hA (D.du l) (D.du m):=by
 induction l with
 |nil=>showλz=>⟨b,(ta _).symm⟩
 |cons a r i=>showλh=>⟨dN (au h).1 (i (au h).2).1,(aI (hA a.kd) (i (au h).2).2).trans (Nat.max_assoc ..).symm⟩
theorem Pr(l:List D):D.bT l=U->D.bT l.reverse=U/\D.du l.reverse=D.du l:=by
 induction l with
 |nil=>showλz=>⟨rfl,rfl⟩
 |cons a r i=>
  intro h
  have⟨c,b⟩:=au h
  rwa[q6]
  have⟨p,q⟩:=HB (m:=[a]) (dN c rfl) r.reverse (i b).1
  show⟨p,q.trans (by rwa[(i b).2];show(aI _ (C4 _)).trans (Nat.max_comm ..))⟩
theorem HC(h:a<=2^k)(c:b<=2^k):a+b<=2^(k+1):=by rwa[s9,vE];show jB h c
theorem okL:lk.Ok where
 lo:=rfl
 leaf n c x y e d h:=BB (tab:=[("nil",aw [])]) rfl h (P:=λe d=>run (n+2) 580 [bh 583 [],aw [bl (a0 e)],js x y] c=W (d,c)) ⟨adh n c _,li0 n c _ _,adg n c _ _,trivial⟩
 one n c e A j k a d t u s o f g:=by
  revert f g;show ee a o λb Z f g=>?_
  show gC (P:=λe d=>run (n+1) 580 [bh 583 [],aw [bl (a0 e),A],j] c=W (d,c)) f ⟨lv1 (qG t u).1 (qG t u).2 g,trivial⟩
 two n c e A B j k a b d t u I J s o z f g v:=by
  revert f g;show tO a o λa Z Z q f g=>?_
  revert v f;show tO b z λb Z Z w v f=>?_
  have K:=HA t u I J
  have p:a.length+b.length<=2^13:=aC (HC q w) (pL (dm _) (ek s))
  have p:a.length+b.length<1000000:=bY p (by simp)
  show gC (P:=λe d=>run (n+1) 580 [bh 583 [],aw [bl (a0 e),A,B],j] c=W (d,c)) f ⟨Po p (aY rfl) K.1 K.2 g v,Po p (aW rfl) K.1 K.2 g v,trivial⟩
 uU e d h:=gC (P:=λZ d=>lk.cm 1 d) h ⟨⟨[],rfl,rfl,cQ _,cQ _⟩,trivial⟩
 xN k e a d o h:=by
  revert h;show tO a o λl i r q h=>?_
  show gC (P:=λZ d=>lk.cm (k+1) d) h ⟨⟨_,rfl,(Pr l i).1,(Pr l i).2▸gV r,aC (bC pO) (aC q (pL (dm _) (gW k)))⟩,trivial⟩
 xO k e a b d o z h:=by
  revert h;show tO a o λl i r q h=>?_
  revert h;show tO b z λm Q H w h=>?_
  show gC (P:=λZ d=>lk.cm (k+1) d) h ⟨⟨_,rfl,(HB Q l i).1,(HB Q l i).2▸gV (jR.mpr ⟨r,H⟩),cF▸HC q w⟩,
   ⟨_,rfl,dN i Q,jR.mpr ⟨ek r,gV H⟩,HC w Nat.one_le_two_pow⟩,trivial⟩
 up k m d h s:=by
  show tO d h λl i r q=>?_
  show⟨l,rfl,i,aC r s,aC q (pL (dm _) s)⟩
theorem adn:∀a b:Fin 4,0<=p6 a.val b.val/\p6 a.val b.val<=3/\0<=mw a.val b.val/\mw a.val b.val<=3:=by decide +kernel
theorem BC(c:0<=a/\a<=3)(d:0<=b/\b<=3):0<=p6 a b/\p6 a b<=3/\0<=mw a b/\mw a b<=3:=by
 have:=adn ⟨a.toNat,(zE c.1).mpr (oC c.2 (by decide))⟩ ⟨b.toNat,(zE d.1).mpr (oC d.2 (by decide))⟩
 rwa[pZ c.1,pZ d.1]at this
theorem Pu{i:Int}(h:0<=i/\i<=3):0<=3-i/\3-i<=3:=⟨Int.sub_nonneg_of_le h.2,Int.sub_le_self 3 h.1⟩
theorem okS:mZ.Ok where
 lo:=rfl
 leaf n e x y f d h:=BB (tab:=[("none",aq 0),("all",aq 3)]) rfl h (P:=λf d=>run (n+2) 613 [bh 616 [(19,aq 3)],aw [bl (a0 f)],js x y] e=W (d,e)) ⟨adj n e _,adk n e _,se0 n e _ _,adi n e _ _,trivial⟩
 one n e f A i k a d m o q c l j:=by
  revert l j;show ee a c λb z l j=>?_
  show gC (P:=λf d=>run (n+1) 613 [bh 616 [(19,aq 3)],aw [bl (a0 f),A],i] e=W (d,e)) l ⟨se1 (qG m o).1 (qG m o).2 j,trivial⟩
 two n e f A B i k a b d m o r s q c g l j p:=by
  obtain⟨a,rfl,z⟩:=c
  obtain⟨b,rfl,z⟩:=g
  have K:=HA m o r s
  show gC (P:=λf d=>run (n+1) 613 [bh 616 [(19,aq 3)],aw [bl (a0 f),A,B],i] e=W (d,e)) l
   ⟨Hy (aY rfl) K.1 K.2 j p,Hy (aW (aY rfl)) K.1 K.2 j p,Hy (aW (aW rfl)) K.1 K.2 j p,trivial⟩
 uU f d h:=gC (P:=λz d=>mZ.cm 0 d) h ⟨⟨0,rfl,by decide⟩,⟨3,rfl,by decide⟩,trivial⟩
 xN k f a d c h:=by
  obtain⟨b,rfl,c⟩:=c
  show gC (P:=λz d=>mZ.cm 0 d) h ⟨⟨_,rfl,Pu c⟩,trivial⟩
 xO k f a b d c g h:=by
  obtain⟨a,rfl,c⟩:=c
  obtain⟨b,rfl,g⟩:=g
  show gC (P:=λz d=>mZ.cm 0 d) h ⟨⟨_,rfl,(BC c g).1,(BC c g).2.1⟩,⟨_,rfl,(BC c g).2.2⟩,⟨_,rfl,(BC c (Pu g)).2.2⟩,trivial⟩
 up _ _ _ h _:=h
noncomputable def parse:Nat->D->Pt
 |n+1,aw [bl s]=>if s.cps.toList.head? =W 63 then dE s.toString else jt s.toString
 |n+1,aw [bl s,a]=> ju s.toString (parse n a)
 |n+1,aw [bl s,a,b]=> fc s.toString (parse n a) (parse n b)
 |_,_=> jt ""
noncomputable def at_(r:D)(k:Nat):D:=match r with|.ins _ l=>(l.lookup k).getD cg|_=> cg
def patsOf(l:List D):List (Pt×Pt):=l.map λr=>(parse 6 (at_ r 15),parse 6 (at_ r 16))
def uV(l:List D):Bool:=l.all λr=>(match r with|.ins C _=>I (C=477)|_=>Y)&&I ((parse 6 (at_ r 15)).toD=at_ r 15)&&I ((parse 6 (at_ r 16)).toD=at_ r 16)
def r3(a b c:D)(x:String):Option D:=hV [("?a",a),("?b",b),("?c",c)] x
def pz(T:Th)(p:Pt×Pt):Prop:=∀k a b c v,T.cm k a->T.cm k b->T.cm k c->dX T (r3 a b c) p.1=W v->dX T (r3 a b c) p.2=W v
def ado(T:Th)(d:List D)(l:List (Pt×Pt)):Bool:=l.all λp=>d.all λa=>d.all λb=>d.all λc=>match dX T (r3 a b c) p.1 with|some v=>I (dX T (r3 a b c) p.2=W v)|none=>U
theorem BD{T:Th}(h:ado T vs l=U)(e:∀k d,T.cm k d->d∈vs):∀p∈l,pz T p:=λp f k a b c v g i j m=>by
 have:=bQ.mp (bQ.mp (bQ.mp (bQ.mp h p f) a (e k a g)) b (e k b i)) c (e k c j)
 rw[m]at this
 show bS this
theorem adp:uV w9=U:=![]
theorem adq:uV (oX 2)=U:=![]
theorem ads:uV (oX 3)=U:=![]
theorem adt:uV uA=U:=![]
theorem adu:uV xa=U:=![]
theorem adv:∀p∈patsOf w9,pz qF p:=BD (vs:=[aM Y,aM U]) (![]) λz d h=>by
 show gu d h λb=>?_
 induction b
 .show .head _
 .show .tail _ (.head _)
theorem below{P:Int->Prop}(h:∀i:Nat,i<n->P i){m:Int}(a:m<=n){d:D}(b:∃i,d= aq i/\0<=i/\i<m):∃i,d= aq i/\P i:=by
 show Ry d b λi c e=>?_
 match i,c with
 |.ofNat i,_=>show⟨_,rfl,h i (jd.mp (tB e a))⟩
theorem HD{n:Nat}{m:Int}(a:m<=n)(b:∃i,d= aq i/\0<=i/\i<m):d∈(bE n).map λi:Nat=>aq i:=by
 show ee d (below (P:=λi=>aq i∈(bE n).map λi:Nat=>aq i) (λi h=>b3.mpr ⟨i,fM.mpr h,rfl⟩) a b) λi h=>?_
 show h
theorem adw:∀p∈patsOf (oX 2),pz (l5 2) p:=BD (vs:=[aq 0,aq 1]) (![]) λz z h=>HD (n:=2) (p0 _) h
theorem adx:∀p∈patsOf (oX 3),pz (l5 3) p:=BD (vs:=[aq 0,aq 1,aq 2]) (![]) λz z h=>HD (n:=3) (p0 _) h
theorem ady:∀p∈patsOf xa,pz mZ p:=BD (vs:=[aq 0,aq 1,aq 2,aq 3]) (![]) λz z ⟨i,e,h,k⟩=>HD (n:=4) (m:=4) (p0 _) ⟨i,e,h,Int.lt_add_one_of_le k⟩
theorem adz:patsOf uA=[(fc "app" (jt "nil") (dE "?a"),dE "?a"),(fc "app" (fc "cons" (dE "?a") (dE "?b")) (dE "?c"),fc "cons" (dE "?a") (fc "app" (dE "?b") (dE "?c"))),(fc "app" (dE "?a") (jt "nil"),dE "?a"),
 (fc "app" (fc "app" (dE "?a") (dE "?b")) (dE "?c"),fc "app" (dE "?a") (fc "app" (dE "?b") (dE "?c"))),(ju "rev" (jt "nil"),jt "nil"),(ju "rev" (fc "cons" (dE "?a") (dE "?b")),fc "app" (ju "rev" (dE "?b")) (fc "cons" (dE "?a") (jt "nil"))),
 (ju "rev" (fc "app" (dE "?a") (dE "?b")),fc "app" (ju "rev" (dE "?b")) (ju "rev" (dE "?a"))),(ju "rev" (ju "rev" (dE "?a")),dE "?a")]:=![]
noncomputable def HE(P:b->Prop):List b->Prop
 |[]=>True
 |a::l=>P a/\HE P l
theorem uW{P:b->Prop}(h:a∈l):HE P l->P a:=by
 induction h with
 |head=>show And.left
 |tail _ _ i=>showλq=>i q.2
theorem adA:∀p∈patsOf uA,pz lk p:=by
 rwa[adz]
 intro p e k a b c v f g i d
 revert d;show ee a f λa z d=>?_
 revert d;show ee b g λb z d=>?_
 revert d;show ee c i λc z d=>?_
 have T:∀{x y:List D},x=y->W (aw x)=W (aw y):=λh=>h▸rfl
 show(uW (P:=λp:Pt×Pt=>dX lk (r3 (aw a) (aw b) (aw c)) p.1=dX lk (r3 (aw a) (aw b) (aw c)) p.2) e ?_).symm.trans d
 show⟨rfl,rfl,T (eM a),T (iM a b c),rfl,T q6,T List.reverse_append,T (List.reverse_reverse a),trivial⟩
inductive Row where
 |bind (p:Nat) (op:String) (m f:Nat)|same (p q:Nat)|hX (l:List (String×Nat))
end Pq
open Pq.Row renaming hX->n8,bind->sk,same->xQ
namespace Pq
noncomputable abbrev Ky:=Nat×List (String×Nat)
noncomputable def solve(nodes:Nat->List (String×List Nat)):List Row->List Nat->List Ky
 |[],_=>[]
 |.hX l::_,r=>[(r.getD 0 0,l.map λp=>(p.1,r.getD p.2 0))]
 |.same p q::a,r=>if r.getD p 0=r.getD q 0 then solve nodes a r else[]
 |.bind p b m f::a,r=>((nodes (r.getD p 0)).filter λn=>n.1==b&&n.2.length==m).flatMap λn=>solve nodes a (r.take f++n.2)
noncomputable def Pt.op:Pt->Option String
 |.var _=>N
 |.c0 o=>W o
 |.c1 o _=>W o
 |.c2 o _ _=>W o
noncomputable def Pt.ks:Pt->List Pt
 |.c1 _ a=>[a]
 |.c2 _ a b=>[a,b]
 |_=>[]
noncomputable def cM(cls:String->List Nat->Option Nat)(τ:String->Option Nat):Pt->Option Nat
 |.var x=>τ x
 |.c0 o=>cls o []
 |.c1 o a=>(cM cls τ a).bind λx=>cls o [x]
 |.c2 o a b=>(cM cls τ a).bind λx=>(cM cls τ b).bind λy=>cls o [x,y]
noncomputable def kQ:List Row->List Pt->Option (List Pt×List (String×Nat))
 |.bind p c m f::b,a=>a[p]?.bind λt=>if t.op=W c/\t.ks.length=m/\f=a.length then kQ b (a++t.ks)else N
 |.same p q::b,a=>if p<a.length/\q<a.length then kQ b a else N
 |.hX l::b,a=>if b=[]then W (a,l)else N
 |[],_=>N
theorem HF{P:List Row->List Pt->Prop}(bind:∀p c b a t,a[p]?=W t->t.op=W c->kQ b (a++t.ks)=W z->P b (a++t.ks)->P (sk p c t.ks.length a.length::b) a)
(same:∀p q b a,p<a.length->q<a.length->kQ b a=aa z->P b a->P (xQ p q::b) a)(hX:P [n8 z.2] z.1)(b:List Row):∀a,kQ b a=aa z->P b a:=by
 induction b with
 |nil=>showλy=>nn
 |cons r b e=>
  intro a h
  induction r with
  |bind p c m f=>
   show bU (h) λt g h=>?_
   obtain⟨⟨i,rfl,rfl⟩,d⟩:=iff h
   show bind p c b a t g i d (e _ d)
  |same p q=>
   have h:=iff h
   show same p q b a h.1.1 h.1.2 h.2 (e _ h.2)
  |hX l=>
   show zX _ (iff h) λd=>?_
   clear e bind same h;cases d
   show hX
noncomputable def HG(a:Nat->List (String×List Nat))(R:List Nat):Row->Prop
 |.bind p b m f=>(b,(R.drop f).take m)∈a (R.getD p 0)
 |.same p q=>R.getD p 0=R.getD q 0
 |.hX _=>True
noncomputable def Good(a:Nat->List (String×List Nat))(R:List Nat):List Row->Prop
 |[]=>True
 |r::b=>HG a R r/\Good a R b
theorem HH{r s:List Nat}(h:p<r.length):(r++s).getD p 0=r.getD p 0:=by
 rwa[ja,fB h,<-ja]
theorem Pw(h:kQ b a=W z):a.length<=z.1.length :=
 HF (P:=λy a=>a.length<=z.1.length) (λy y y y y y y y c=>aC (cF▸ew ..) c) (λy y y y y y y c=>c) (bG _) b a h
theorem Px[Decidable c] :k∈(if c then l else[])↔c/\k∈l:=by
 by_cases h:c
 .rwa [aJ h];show⟨λk=>⟨h,k⟩,And.right⟩
 .rwa [aL h];show⟨λk=>(aF k bc),λk=>aF k.1 h⟩
theorem Py(h:kQ i f=W z)(j:r.length=f.length)(u:0<f.length):
 (k∈solve d i r↔∃t,(r++t).length=z.1.length/\Good d (r++t) i/\k=((r++t).getD 0 0,z.2.map λp=>(p.1,(r++t).getD p.2 0))):=by
 show HF (P:=λi f=>∀r:List Nat,r.length=f.length->0<f.length->(k∈solve d i r↔∃t,(r++t).length=z.1.length/\Good d (r++t) i/\k=((r++t).getD 0 0,z.2.map λp=>(p.1,(r++t).getD p.2 0)))) ?_ ?_ ?_ i f h r j u
 .intro p x i f t H I h v r j u
  have v:=λl (e:l.length=t.ks.length)=>v (r++l) (![cF,cF,j,e]) (bg u (cF▸ew ..))
  have y:∀l m,l.length=t.ks.length->(HG d (r++(l++m)) (sk p x t.ks.length f.length)↔(x,l)∈d (r.getD p 0)):=λl m e=>by
   show(x,((r++(l++m)).drop f.length).take t.ks.length)∈d ((r++(l++m)).getD p 0)↔_
   rwa[HH (j▸(cD.mp H).1:p<r.length),<-j,List.drop_left,<-e,Jl]
  show pQ.trans ⟨?_,?_⟩
  .rintro ⟨⟨o,l⟩,n,A⟩
   have n:=ow.mp n
   clear I;obtain rfl:o=x:=bX.mp (au n.2).1
   rw[(j▸pP:r.take f.length=r)]at A
   show eA ((v l (bX.mp (au n.2).2:l.length=t.ks.length)).mp A) λm a b c=>?_
   rw[iM]at a b c
   show⟨l++m,a,⟨(y l m (bX.mp (au n.2).2:l.length=t.ks.length)).mpr n.1,b⟩,c⟩
  .rintro ⟨m,a,⟨n,b⟩,c⟩
   have w:(m.take t.ks.length).length=t.ks.length:=by
    have B:=Pw h
    rw[<-a,cF,cF,j]at B
    show Dw (C0 B)
   rw[<-(q5 t.ks.length m)]at a b c n
   show⟨(x,m.take t.ks.length),ow.mpr ⟨(y _ _ w).mp n,dN (beq_self_eq_true _) (bX.mpr w)⟩,?_⟩
   rwa[(j▸pP:r.take f.length=r)]
   rw[<-iM]at a b c
   show(v _ w).mpr ⟨_,a,b,c⟩
 .intro p q i f J K Z v r j u
  have g:=λt=>HH (s:=t) (j▸J)
  have Q:=λt=>HH (s:=t) (j▸K)
  show Px.trans ⟨?_,?_⟩
  .rintro ⟨e,A⟩
   show eA ((v r j u).mp A) λt a b c=>?_
   show⟨t,a,⟨(g t).trans (e.trans (Q t).symm),b⟩,c⟩
  .rintro ⟨t,a,⟨e,b⟩,c⟩
   show⟨(g t).symm.trans (e.trans (Q t)),(v r j u).mpr ⟨t,a,b,c⟩⟩
 .intro r j u
  show bI.trans ⟨?_,?_⟩
  .rintro rfl
   show⟨[],by rwa[eM];show j,⟨trivial,trivial⟩,![eM]⟩
  .rintro ⟨t,a,Z,c⟩
   rw[cF,j]at a
   revert c;show oI (ml.mp (IK (a.trans (y1 _).symm))) λc=>?_
   rwa[eM]at c
noncomputable def isVar:Pt->Bool
 |.var _=>U
 |_=>Y
noncomputable def Pz(a:List Pt)(l:List (String×Nat)):Row->Bool
 |.bind p b m f=>match a[p]? with
  |some t=>I (t.op=W b)&&I ((a.drop f).take m=t.ks)&&I (f+m<=a.length)
  |none=>Y
 |.same p q=>match a[p]?,a[q]? with
  |some (dE x),W (dE y)=>I (x=y)
  |_,_=>Y
 |.hX c=>I (c=l)
noncomputable def xR(a:List Row)(l:List (String×Nat))(i:Nat):Pt->Bool
 |.var x=>l.any (λp=>p.1==x&&p.2==i)||a.any λr=>match r with|.same p q=>p==i&&l.any (λe=>e.1==x&&e.2==q)|_=>Y
 |_=>a.any λr=>match r with|.bind p _ _ _=>p==i|_=>Y
structure xS (left:Pt) (rows:List Row) (ps:List Pt) (l:List (String×Nat)):Prop where
 run:kQ rows [left]=aa (ps,l)
 row:rows.all (Pz ps l)=af
 xR:(bE ps.length).all (λi=>match ps[i]? with|some t=>xR rows l i t|none=>ah)=af
 at_:l.all (λp=>ps[p.2]?==aa (dE p.1))=af
 nd:(l.map (·.1)).Nodup
 first:ps[0]?=aa left
theorem HI{R:List Nat} :Good b R a↔∀r∈a,HG b R r:=by
 induction a with
 |nil=>show⟨λz z h=>(aF h bc),λz=>trivial⟩
 |cons r d c=>show(and_congr nF c).trans zg.symm
def tabOf(l:List (String×Nat))(R:List Nat)(x:String):Option Nat:=(l.lookup x).map λp=>R.getD p 0
section
variable{left:Pt}{rows:List Row}{ps:List Pt}{l:List (String×Nat)}{nodes:Nat->List (String×List Nat)}{cls:String->List Nat->Option Nat}
theorem adB{a:List Pt}(h:(ps.drop f).take m=a)(b:a[j]?=W t):ps[f+j]?=W t:=by
 rw[<-h,Js]at b
 show zd.symm.trans (iff b).2
theorem adC{R:List Nat}(a:f+m<=R.length):(R.drop f).take m=(bE m).map λj=>R.getD (f+j) 0:=by
 apply y7
 intro i
 rwa[Js,dy]
 by_cases h:i<m
 .rwa [aJ h,zd,pS h,dn (bg (C5 h f) a)]
  show aI W (show R[f+i]'(bg (C5 h f) a)=R.getD (f+i) 0 by rwa[ja,dn (bg (C5 h f) a)];rfl)
 .rwa [aL h,Dt (by rwa[gI];show fi h)];rfl
theorem HJ(w:xS left rows ps l){R:List Nat}(x:R.length=ps.length)(g:Good nodes R rows)(y:∀c o n,(o,n)∈nodes c->cls o n=W c){i:Nat}{t:Pt}(z:ps[i]?=W t)(h:rows.any (λr=>match r with|.bind p _ _ _=>p==i|_=>Y)=U):
 ∃a f,t.op=W a/\(∀j k,t.ks[j]?=W k->ps[f+j]?=W k)/\cls a ((bE t.ks.length).map λj=>R.getD (f+j) 0)=W (R.getD i 0):=by
 show aV (ti.mp h) λr s d=>?_
 have A:=HI.mp g r s
 have b:=bQ.mp w.row _ s
 induction r with
 |bind p a m f=>
  clear h;obtain rfl:p=i:=bX.mp d
  have b:(match ps[p]? with|some t=>I (t.op=W a)&&I ((ps.drop f).take m=t.ks)&&I (f+m<=ps.length)|none=>Y)=U:=b
  rw[z]at b
  have e:=au b
  have u:=bS (au e.1).2
  have v:=bS e.2
  have B:t.ks.length=m:=by rwa[<-u,vM,vL];show yT (Nat.le_sub_of_add_le (ky .. ▸v))
  show x2 a f ⟨bS (au e.1).1,λj k=>adB u,y _ _ _ (by rwa[B,<-adC (x▸v)];show A)⟩
 |same p q=>show ff d
 |hX Q=>show ff d
theorem adD(k:xS left rows ps l){R:List Nat}(w:R.length=ps.length)(g:Good nodes R rows)(z:∀c o Q,(o,Q)∈nodes c->cls o Q=W c)(t:Pt):∀i,ps[i]?=W t->cM cls (tabOf l R) t=W (R.getD i 0):=by
 have j:∀{i t},ps[i]?=W t->xR rows l i t=U:=λ{i t} d=>by
  have:=bQ.mp k.xR i (fM.mpr (cD.mp d).1)
  rwa[d]at this
 induction t with
 |var x=>
  intro i d
  have m:∀p,(x,p)∈l->R.getD p 0=R.getD i 0->cM cls (tabOf l R) (dE x)=W (R.getD i 0):=λp n e=>by
   show(l.lookup x).map _=_
   rwa[lookup_mem k.nd n];show aI W e
  rcases(iI ..).mp (j d)with h|h
  .obtain ⟨⟨y,p⟩,n,h⟩:=ti.mp h
   obtain rfl:y=x:=bX.mp (au h).1
   clear d;obtain rfl:p=i:=bX.mp (au h).2
   show m _ n rfl
  .show aV (ti.mp h) λr hr h=>?_
   induction r with
   |same p q=>
    obtain rfl:p=i:=bX.mp (au h).1
    obtain⟨⟨y,I⟩,n,h⟩:=ti.mp (au h).2
    clear d;obtain rfl:y=x:=bX.mp (au h).1
    obtain rfl:I=q:=bX.mp (au h).2
    show m _ n (gq (HI.mp g _ hr))
   |bind=>show ff h
   |hX=>show ff h
 |c0 o=>
  intro i d
  show eX (HJ k w g z d (j d)) λH f s u v=>?_
  cases s
  show v
 |c1 o a ih=>
  intro i d
  show eX (HJ k w g z d (j d)) λH f s u v=>?_
  cases s
  show(cM cls _ a).bind _=_
  rwa[ih (f+0) (u 0 a rfl)]
  show v
 |c2 o a b A B=>
  intro i d
  show eX (HJ k w g z d (j d)) λH f s u v=>?_
  cases s
  show(cM cls _ a).bind _=_
  rwa[A (f+0) (u 0 a rfl)]
  show(cM cls _ b).bind _=_
  rwa[B (f+1) (u 1 b rfl)]
  show v
end
noncomputable def Pt.vars:Pt->List String
 |.var x=>[x]
 |.c0 _=>[]
 |.c1 _ a=>a.vars
 |.c2 _ a b=>a.vars++b.vars
section
variable{left:Pt}{rows:List Row}{ps:List Pt}{l:List (String×Nat)}{nodes:Nat->List (String×List Nat)}{cls:String->List Nat->Option Nat}{τ:String->Option Nat}
theorem PB(h:cM cls τ t=W c):(∀o,t.op=W o->cls o (t.ks.map λt=>(cM cls τ t).getD 0)=W c)/\∀k∈t.ks,(cM cls τ k).isSome=U:=by
 induction t using sj with
 |var x=>show⟨λz=>nn,λz h=>(aF h bc)⟩
 |c0 o=>show⟨λz e=>by cases e;show h,λz h=>(aF h bc)⟩
 |c1 o a=>
  show bU (h) λx d h=>?_
  show⟨λz e=>?_,λk f=>?_⟩
  .cases e
   show cls o [(cM cls τ a).getD 0]=_
   rwa[d];show h
  .rwa [bI.mp f,d];rfl
 |c2 o a b=>
  show bU (h) λx d h=>?_
  show bU (h) λy g h=>?_
  show⟨λz e=>?_,λk f=>?_⟩
  .cases e
   show cls o [(cM cls τ a).getD 0,(cM cls τ b).getD 0]=_
   rwa[d,g];show h
  .clear h;rcases bB.mp f with rfl|f
   .rwa [d];rfl
   .rwa [bI.mp f,g];rfl
theorem adE(h:kQ a ps=W z):(∀t∈ps,(cM cls τ t).isSome=U)->∀t∈z.1,(cM cls τ t).isSome=U :=
 HF (P:=λy ps=>(∀t∈ps,(cM cls τ t).isSome=U)->∀t∈z.1,(cM cls τ t).isSome=U) (λy y y y t f y y b e=>b λu d=>(d9.mp d).elim (e u) λd=>by
  obtain⟨c,g⟩:=fF.mp (e t (cN f))
  show(PB g).2 u d) (λy y y y y y y b=>b) id a ps h
theorem adF(w:xS left rows ps l)(h:cM cls τ left=W c)(B:∀c o z,cls o z=W c->(o,z)∈nodes c):Good nodes (ps.map λt=>(cM cls τ t).getD 0) rows:=by
 have Q:=adE (cls:=cls) (τ:=τ) w.run λt d=>![bI.mp d,h]
 have g:∀i t,ps[i]?=W t->cM cls τ t=W ((ps.map λt=>(cM cls τ t).getD 0).getD i 0):=λi t d=>by
  obtain⟨v,A⟩:=fF.mp (Q t (cN d))
  rwa[ja,dy,d,A]
  show _=W ((cM cls τ t).getD 0)
  rwa[A];rfl
 show HI.mpr λr n=>?_
 have a:=bQ.mp w.row _ n
 induction r with
 |bind p s m f=>
  have a:(match ps[p]? with|some t=>I (t.op=W s)&&I ((ps.drop f).take m=t.ks)&&I (f+m<=ps.length)|none=>Y)=U:=a
  generalize d:ps[p]?=b;induction b with
  |none=>rw[d]at a;show ff a
  |some t=>
   rw[d]at a
   show(s,_)∈_
   rwa[<-vI,<-pN,bS (au (au a).1).2]
   show B _ _ _ ((PB (g p t d)).1 s (bS (au (au a).1).1))
 |same p q=>
  have a:(match ps[p]?,ps[q]? with|some (dE x),W (dE y)=>I (x=y)|_,_=>Y)=U:=a
  generalize j:ps[p]?=b;induction b with
  |none=>rw[j]at a;show ff a
  |some u=>
   generalize k:ps[q]?=b;induction b with
   |none=>rw[j,k]at a;clear j;induction u using sj<;>show ff a
   |some v=>
    rw[j,k]at a
    have e:u=v:=by clear j;induction u using sj<;>(clear k;induction v using sj)<;>first|show ff a|show bS a▸rfl
    show L ((g p _ j).symm.trans ((aI _ e).trans (g q _ k)))
 |hX l'=>trivial
theorem PC(d:xS left rows ps l)(n:∀c o i,(o,i)∈nodes c↔cls o i=W c):
 k∈solve nodes rows [c]↔∃τ,cM cls τ left=W c/\(∀p∈l,(τ p.1).isSome=U)/\k=(c,l.map λp=>(p.1,(τ p.1).getD 0)):=by
 show(Py d.run rfl (dm _)).trans ⟨?_,?_⟩
 .rintro ⟨t,s,g,rfl⟩
  have j:∀p∈l,tabOf l ([c]++t) p.1=W (([c]++t).getD p.2 0):=λp b=>by
   unfold tabOf
   rwa[lookup_mem d.nd b];rfl
  show⟨tabOf l ([c]++t),(adD d s g (λc o i=>(n c o i).mp) left 0 d.first),λp b=>![j p b],?_⟩
  show iQ rfl ?_
  show fN λp b=>![j p b]
 .rintro ⟨τ,h,v,rfl⟩
  have g:=adF d h (λc o i=>(n c o i).mpr)
  obtain⟨q,m⟩:∃q,(ps.map λt=>(cM cls τ t).getD 0)=c::q:=by
   have f:=d.first
   match ps,f with
   |a::r,f=>show⟨_,aI (· ::_) ((aI (λt=>(cM cls τ t).getD 0) (L f)).trans ![h])⟩
  show⟨q,?_,by rw[m]at g;show g,?_⟩
  .show (aI tj m.symm).trans (bN _)
  .show iQ rfl (fN λp b=>?_)
   show(p.1,_)=(p.1,_)
   have e:(c::q).getD p.2 0=(τ p.1).getD 0:=by
    rwa[<-m,ja,dy,(λp u=>bX.mp (bQ.mp d.at_ p u):∀p∈l,ps[p.2]?=W (dE p.1)) p b]
    rfl
   show aI _ e.symm
theorem adG :(∀x∈t.vars,τ x=c x)->cM cls τ t=cM cls c t:=by
 induction t with
 |var x=>showλh=>h x (a7 ..)
 |c0 _=>showλz=>rfl
 |c1 o a i=>showλh=>aI (sM · λx=>cls o [x]) (i h)
 |c2 o a b i j=>
  intro h
  show(cM cls τ a).bind _=(cM cls c a).bind _
  rwa[i λx d=>h x (dT _ d),j λx d=>h x (fG _ d)]
theorem adH{cs:List Nat}(f:∀o g c,cls o g=W c->∀k∈g,k∈cs) :∀{c:Nat},cM cls τ t=W c->(isVar t=U->c∈cs)->∀x∈t.vars,∃v∈cs,τ x=W v:=by
 induction t with
 |var y=>showλ{c} h e x d=>⟨c,e rfl,bI.mp d▸h⟩
 |c0 _=>showλz z z d=>aF d bc
 |c1 o a i=>
  intro c h z x d
  show bU (h) λv e h=>?_
  show i e (λz=>f _ _ _ h v (a7 ..)) x d
 |c2 o a b i j=>
  intro c h z x d
  show bU (h) λv e h=>?_
  show bU (h) λu m h=>?_
  rcases d9.mp d with d|d
  .show i e (λz=>f _ _ _ h v (a7 ..)) x d
  .show j m (λz=>f _ _ _ h u (bq _ (a7 ..))) x d
end
noncomputable def Row.toD:Row->D
 |.bind p a m f=> aw [sD "bind",aq p,sD a,aq m,aq f]
 |.same p q=> aw [sD "same",aq p,aq q]
 |.hX l=> aw [sD "yield",aw (l.map λp=> aw [sD p.1,aq p.2])]
noncomputable def adI:D->String×Nat
 |.tup [bl s,aq i]=>(s.toString,i.toNat)
 |_=>("",0)
noncomputable def adJ:D->Row
 |.tup [_,aq p,bl o,aq m,aq f]=> sk p.toNat o.toString m.toNat f.toNat
 |.tup [_,aq p,aq q]=> xQ p.toNat q.toNat
 |.tup [_,aw l]=> n8 (l.map adI)
 |_=> n8 []
def adK(left:D):List D:=match run 39 207 [left] []with|some (aw a,_)=>a|_=>[]
def HK(left:D):List D:=match run 38 649 [left] []with|some (ay l,_)=>l|_=>[]
def rowsOf(left:D):List Row:=(adK left).map adJ
def j7(left:D):List Pt×List (String×Nat):=(kQ (rowsOf left) [parse 6 left]).getD ([],[])
noncomputable def jP:List Row->Nat
 |.bind .. ::r=>1+4*jP r
 |.same .. ::r=>1+jP r
 |_=>1
noncomputable def so(s:String):Option Nat:=(a0 s).cps.toList[0]?
def qH(s:String):Bool:=match so s with|some c=>I (c≠63)|none=>Y
noncomputable def Pt.j8:Pt->Bool
 |.var x=>I (so x=W 63)
 |.c0 o=>qH o
 |.c1 o a=>qH o&&a.j8
 |.c2 o a b=>qH o&&a.j8&&b.j8
noncomputable def Pt.uX:Pt->Bool
 |.var _=>U
 |.c0 o=>I (o≠ "x" /\o≠ "y")
 |.c1 _ a=>a.uX
 |.c2 _ a b=>a.uX&&b.uX
noncomputable def l6:List Row->Nat
 |.bind .. ::r=>1+l6 r
 |_::r=>l6 r
 |[]=>0
noncomputable def HL:List Row->Bool
 |.bind 0 _ _ _::_=>U
 |_=>Y
def BE(left:D)(rows:List Row)(a:List Pt)(l:List (String×Nat)):Bool:=I (jP rows<=10000)&&I (a.length<=20)&&I (l.length<=3)&&D.nQ 0 [left]&&left.bF
def BG(b:Pt)(a:List Row):Bool:=I (l6 a<=3)&&HL a&&b.j8&&I (b.dep<=5)&&I (b.vars.length<=10)&&b.uX&&b.vars.all λx=>["?a", "?b", "?c"].contains x
noncomputable def adL(b a:Pt):Bool:=a.j8&&I (a.dep<=5)&&a.vars.all λx=>b.vars.contains x
def PD(left:D):Bool :=
 I (run 39 207 [left] []=W (aw ((rowsOf left).map Row.toD),[]))&&I (run 38 649 [left] []=W (ay (HK left),[])) &&
 (kQ (rowsOf left) [parse 6 left]).isSome&&(rowsOf left).all (Pz (j7 left).1 (j7 left).2) &&
 (bE (j7 left).1.length).all (λi=>match(j7 left).1[i]? with|some t=>xR (rowsOf left) (j7 left).2 i t|none=>Y) &&
 (j7 left).2.all (λp=>(j7 left).1[p.2]?==W (dE p.1))&&I (((j7 left).2.map (·.1)).Nodup)&&I ((j7 left).1[0]?=W (parse 6 left)) &&
 I (gx (HK left)=W ((j7 left).2.map λp=>sD p.1))&&(parse 6 left).vars.all (λx=>((j7 left).2.map (·.1)).contains x)&&((j7 left).2.map (·.1)).all (λx=>(parse 6 left).vars.contains x)&& !isVar (parse 6 left)&&BE left (rowsOf left) (j7 left).1 (j7 left).2
def adM(r:D):Bool:=PD (at_ r 15)&&BG (parse 6 (at_ r 15)) (rowsOf (at_ r 15))&&adL (parse 6 (at_ r 15)) (parse 6 (at_ r 16))
def uY(l:List D):Bool:=I (0<l.length)&&I (l.length<1000)&&l.all adM
theorem adN:uY w9=U:=![]
theorem adO:uY (oX 2)=U:=![]
theorem adP:uY (oX 3)=U:=![]
theorem adQ:uY uA=U:=![]
theorem adR:uY xa=U:=![]
structure uZ (left:D) (pt:Pt) (rows:List Row) (ps:List Pt) (l:List (String×Nat)) (nm:List D):Prop where
 prog:run 39 207 [left] []=aa (aw (rows.map Row.toD),[])
 names:run 38 649 [left] []=aa (ay nm,[])
 ok:xS pt rows ps l
 sort:gx nm=aa (l.map λp=>sD p.1)
 vars:∀x,x∈pt.vars↔x∈l.map (·.1)
 nv:isVar pt=ah
 size:BE left rows ps l=af
theorem adS(h:PD left=U):∃n l o,uZ left (parse 6 left) (rowsOf left) n l o:=by
 have d:=au h
 have f:=au d.1
 have g:=au f.1
 have i:=au g.1
 have j:=au i.1
 have k:=au j.1
 have b:=au k.1
 have a:=au (au (au b.1).1).1
 obtain⟨q,m⟩:=fF.mp (au a.1).2
 have e:j7 left=q:=aI (·.getD ([],[])) m
 show⟨q.1,q.2,HK left,bS (au (au a.1).1).1,bS (au (au a.1).1).2,⟨m,e▸a.2,e▸(au (au b.1).1).2,e▸(au b.1).2,e▸bS b.2,e▸bS k.2⟩,e▸bS j.2,
  λx=>⟨λc=>e▸Jt.mp (bQ.mp i.2 x c),λc=>Jt.mp (bQ.mp g.2 x (e.symm▸c))⟩,by rwa[<-sN];show f.2,e▸d.2⟩
theorem adT(e:ug.contains f=U)(g:D.nQ 0 a=U)(h:run n f a b=W (d,b)):run n f a σ=W (d,σ):=by
 induction n using dS with
 |zero=>show nn h
 |succ n=>
  rw[Fz,aJ e]at h |-
  unfold wU at h |-
  rw[aJ g]at h |-
  show bU (h) λq i c=>?_
  show fI (c) λc j=>?_
  rwa[i,c5,aJ c,(cO (L j)).1]
theorem PF(f:Nat->Option D):(∀d:D,d.bF=U->nN f d=W d)/\∀l,D.bT l=U->kG f l=W l :=
 D.nJ rfl (λz=>rfl) (λz=>rfl) (λl z i=>by show(kG f l).map _=_;rwa[i];rfl) rfl λd l z z a b=>by show(nN f d).bind _=_;rwa[a,c5,b];rfl
theorem HM(h:d.bF=U):nN f d=W d:=(PF f).1 d h
theorem HN(h:D.bT l=U):kG f l=W l:=(PF f).2 l h
theorem HO(h:D.bT l=U):iU σ (ay l) (σ++σ')=W (ay l,σ):=by
 unfold iU
 rwa[aJ (by simp),show nN _ (ay l)=W (ay l)from(aI (gj ay) (HN h):_)];rfl
structure HS where
 cells:List D
 at_:Nat
 nodes:List (String×List Nat)
 wt:List Int
 dp:List Int
 up:List Nat
 lots:List (List Nat)
 fQ:List D
 i3:List D
 fo:List D
 kn:List (D×D)
 ab:List (D×D)
 wa:List D
 us:List (List D)
def a9(p:String×List Nat):D:= aw (sD p.1::p.2.map iD)
noncomputable def iF:List (List Nat)->List (List D)->St
 |a::r,b::q=> aO (a.map iD):: aO b::iF r q
 |_,_=>[]
def mk(h:HS):St :=
 [a8 [(sD "cells",ay h.cells),(sD "at",aq h.at_)],
  cz 446 [(8,ak 2),(9,ak 7),(10,ak 11),(11,ak 12),(12,ak 13),(5,ak 14),(13,ak 15)],
  cz 198 [(0,ak 3),(1,ak 4),(2,ak 5),(3,ak 6)],
  aO (h.nodes.map a9),a8 (h.nodes.zipIdx.map λp=>(a9 p.1,iD p.2)),aO (h.wt.map aq),aO (h.dp.map aq),
  cz 316 [(5,ak 8),(6,ak 9),(7,ak 10)],
  aO (h.up.map iD),aO ((bE h.lots.length).map λi=> ak (16+2*i)),aO h.fQ,
  aO h.i3,aO h.fo,a8 h.kn,a8 h.ab,aO h.wa]++iF h.lots h.us
section
variable{n:Nat}{h:HS}{J:St}
theorem g1:(mk h++J)[1]?=W (cz 446 [(8,ak 2),(9,ak 7),(10,ak 11),(11,ak 12),(12,ak 13),(5,ak 14),(13,ak 15)]):=rfl
theorem g2:(mk h++J)[2]?=W (cz 198 [(0,ak 3),(1,ak 4),(2,ak 5),(3,ak 6)]):=rfl
theorem g3:(mk h++J)[3]?=W (aO (h.nodes.map a9)):=rfl
theorem g7:(mk h++J)[7]?=W (cz 316 [(5,ak 8),(6,ak 9),(7,ak 10)]):=rfl
theorem g8:(mk h++J)[8]?=W (aO (h.up.map iD)):=rfl
theorem adU:run (n+1) 117 [ak 2] (mk h++J)=W (aq h.nodes.length,mk h++J):=by
 show dw (r:=W (aq h.nodes.length)) (ρ':=[W (ak 2),N]) (by rfl) rfl rfl rfl rfl rfl (di (l:= c7) (d4 (at_of rfl (@g2 h J) (aQ rfl) rfl) ?_))
 rwa[lj (d7 g3),bN]
theorem PG(b:h.nodes[i]?=W p):ev tb a (cK (dZ (ax 0) 0) (ax 1)) [W (ak 2),W (iD i)] (mk h++J)=W (a9 p,mk h++J) :=
 cX (at_of rfl (@g2 h J) (aQ rfl) rfl) (aB rfl) (by rwa[d7 g3];show l0 ![dy,b])
theorem PH{i:Nat}(a:h.nodes[i]?=W p):run (n+1) 155 [ak 2,aq i] (mk h++J)=W (sD p.1,mk h++J) :=
 dw (r:=W (sD p.1)) (ρ':=[W (ak 2),W (aq i)]) (by rfl) rfl rfl rfl rfl rfl (di (l:= c7) (cX (PG a) cE rfl))
theorem PI{i:Nat}(a:h.nodes[i]?=W p):run (n+1) 162 [ak 2,aq i] (mk h++J)=W (aw (p.2.map iD),mk h++J) :=
 dw (r:=W (aw (p.2.map iD))) (ρ':=[W (ak 2),W (aq i)]) (by rfl) rfl rfl rfl rfl rfl (di (l:= c7) (qB (PG a) cE qD))
noncomputable def Flat(u:List Nat):Prop:=∀(i a:Nat),u[i]?=W a->u[a]?=W a
theorem BH{i a:Nat}(m:Flat h.up)(c:h.up[i]?=W a):run (n+1) 273 [ak 7,aq i] (mk h++J)=W (aq a,mk h++J):=by
 have f:∀j b:Nat,h.up[j]?=W b->ev tb (run n) (cK (dZ (ax 0) 5) (ax 1)) [W (ak 7),W (iD j)] (mk h++J)=W (iD b,mk h++J):=λj b e=>
  cX (at_of rfl (@g7 h J) (aQ rfl) rfl) (aB rfl) (by rwa[d7 g8];show l0 ![dy,e])
 have g:∀j b:Nat,h.up[j]?=W b->ev tb (run n) (dR gZ (cK (dZ (ax 0) 5) (ax 1)) (ax 1)) [W (ak 7),W (iD j)] (mk h++J)=W (aM (!I (b=j)),mk h++J):=λj b e=>fb (f j b e) (aB rfl) (Pg b j)
 have d:=g a a (m i a c)
 rw[dA rfl]at d
 show dw (F:=Lv) (r:=W (iD a)) (ρ':=[W (ak 7),W (iD a)]) (by rfl) rfl rfl rfl rfl rfl ((Bo (ρ':=[W (ak 7),W (iD a)]) (σ':=mk h++J) (l:= cZ (.ret (ax 1)) c7) ?_).trans (di (aB rfl)))
 show jk _ _ (65534+1+1) _ _=_
 by_cases q:a=i
 .subst q
  show xJ d
 .have k:=g i a c
  rw[ef q]at k
  show(xK k (d8 (l:= c7) (f i a c) eI)).trans (xJ d)
end
section
variable{n:Nat}{h:HS}{J:St}
theorem xT{i a:Nat}(b:Flat h.up)(c:h.up[i]?=W a):run (n+2) 370 [ak 1,aq i] (mk h++J)=W (aq a,mk h++J) :=
 dw (r:=W (aq a)) (ρ':=[W (ak 1),W (aq i)]) (by rfl) rfl rfl rfl rfl rfl (di (l:= c7) (c9 (at_of rfl (@g1 h J) (aQ rfl) rfl) (dD g7) (f:=273) rfl (bb (aB rfl)) (BH b c)))
theorem u0:run (n+2) 341 [ak 1] (mk h++J)=W (aq h.nodes.length,mk h++J) :=
 dw (r:=W (aq h.nodes.length)) (ρ':=[W (ak 1)]) (by rfl) rfl rfl rfl rfl rfl (di (l:= c7) (c9 (at_of rfl (@g1 h J) (aQ rfl) rfl) (dD g2) (f:=117) rfl fK adU))
theorem PJ:run (n+1) 266 [ak 7] (mk h++J)=W (aq h.up.length,mk h++J):=by
 show dw (r:=W (aq h.up.length)) (ρ':=[W (ak 7),N]) (by rfl) rfl rfl rfl rfl rfl (di (l:= c7) (d4 (at_of rfl (@g7 h J) (aQ rfl) rfl) ?_))
 rwa[lj (d7 g8),bN]
noncomputable def HS.cl(h:HS)(k:Nat):Nat:=h.up.getD k 0
theorem u2(a:k<h.up.length):h.up[k]?=W (h.cl k):=by
 rwa[HS.cl,ja,dn a];rfl
theorem PK{i:Nat}(e:Flat h.up)(b:h.nodes[i]?=W p)(j:∀k∈p.2,k<h.up.length)(o:p.2.length<=10):run (n+3) 346 [ak 1,aq i] (mk h++J)=W (a9 (p.1,p.2.map h.cl),mk h++J):=by
 have c:=jq (cal:=run (n+2)) (σ:=mk h++J) (mp:=[N,N,W 0]) (tg:= bt 1) (it:= dW (dB "kids" (dZ (ax 0) 8) (aS (ax 1) aT))) (elt:= dB "find" (ax 2) (aS (ax 1) aT)) (ρ:=[W (ak 1),W (aq i),N]) (ds:=p.2.map iD)
  (g:=λd=>match d with|.int k=>iD (h.cl k.toNat)|d=>d) (b6 (c9 (at_of rfl (@g1 h J) (aQ rfl) rfl) (dD g2) (f:=162) rfl (bb (aB rfl)) (PI b)) rfl) λd m=>by
  show ct d (b3.mp m) λk a=>?_
  show⟨[N,W (iD k),W (ak 1)],rfl,c9 (aB rfl) (dD g1) (f:=370) rfl (bb (aB rfl)) (xT e (u2 (j k a)))⟩
 rw[show((p.2.map iD).map λd=>match d with|.int k=>iD (h.cl k.toNat)|d=>d)=(p.2.map h.cl).map iD by rwa[dK,dK];rfl]at c
 show dw (r:=W (a9 (p.1,p.2.map h.cl))) (ρ':=[W (ak 1),W (aq i),N]) (by rfl) rfl rfl rfl rfl rfl (di (l:= c7) (et (eD (bb (c9 (at_of rfl (@g1 h J) (aQ rfl) rfl) (dD g2) (f:=155) rfl (bb (aB rfl)) (PH b)))) (d4 c (Pd rfl)) (px ?_)))
 simp only[fC,bN,mr]
 lia
theorem HP:∀(l:List Nat),((l.map λ(k:Nat)=>aq k).filterMap λd=>match d with|.int k=>if h.cl k.toNat=k.toNat then W d else N|_=>N)=(l.filter λa=>h.cl a==a).map iD
 |[]=>rfl
 |k::r=>by
  rwa[ea,nz,zh]
  dsimp only[rG]
  by_cases q:h.cl k=k
  .rwa [aJ q,aJ (dA ‹_›),ea,<-(HP r)];rfl
  .rwa [aL q,aL (by simpa using q),<-(HP r)]
theorem adV(f:h.up.length<1000):run (n+1) 292 [ak 7] (mk h++J)=W (ay (((bE h.up.length).filter λa=>h.cl a==a).map iD),mk h++J):=by
 have c:=Hj (cal:=run n) (σ:=mk h++J) (mp:=[N,N,W 0]) (tg:= bt 1) (it:= nS (fa dO (dZ (ax 0) 5))) (ifs:= aS (dR dh (cK (dZ (ax 2) 5) (ax 1)) (ax 1)) aT) (elt:= ax 1) (ρ:=[W (ak 7),N,N]) (ds:=(bE h.up.length).map λ(k:Nat)=>aq k)
  (g:=λd=>match d with|.int k=>if h.cl k.toNat=k.toNat then W d else N|_=>N) (qv (d4 (at_of rfl (@g7 h J) (aQ rfl) rfl) ![lj (d7 g8),bN]) (bg ‹_› (br ..))) λd b=>by
  show ct d (b3.mp b) λk e=>?_
  have t:oQ tb (run n) (aS (dR dh (cK (dZ (ax 2) 5) (ax 1)) (ax 1)) aT) [N,W (iD k),W (ak 7)] (mk h++J)=W (I (h.cl k=k),mk h++J):=Ho (fb (cX (r:=iD (h.cl k)) (at_of rfl (@g7 h J) (aQ rfl) rfl) (aB rfl) (by rwa[d7 g8];show l0 ![dy,(u2 (fM.mp e):h.up[k]?=W (h.cl k))])) (aB rfl) (Bx _ _))
  show⟨[N,W (iD k),W (ak 7)],rfl,_,t,λq=>aL (of_decide_eq_false q),λq=>⟨iD k,aB rfl,aJ (bS q)⟩⟩
 rw[HP]at c
 show dw (r:=W (ay (((bE h.up.length).filter λa=>h.cl a==a).map iD))) (ρ':=[W (ak 7),N,N]) (by rfl) rfl rfl rfl rfl rfl (di (l:= c7) c)
end
noncomputable def pA(a:Nat):List Nat->List Nat
 |[]=>[a]
 |b::r=>if a<b then a::b::r else b::pA a r
noncomputable def iG:List Nat->List Nat
 |[]=>[]
 |a::r=>pA a (iG r)
theorem PM(a b:Nat):cy (iD a) (iD b)=W cY↔a<b:=(iff_of_eq (tc ..)).trans (oD.trans jd)
theorem adW(a:Nat)(l:List Nat):jY (iD a) (l.map iD)=(pA a l).map iD:=by
 induction l with
 |nil=>rfl
 |cons b r i=>
  show(if cy (iD a) (iD b)=W cY then _ else iD b::jY (iD a) (r.map iD))=(if a<b then _ else _:List Nat).map iD
  by_cases h:a<b
  .rwa [aJ ((PM a b).mpr h),aJ h];rfl
  .rwa [aL λq=>h ((PM a b).mp q),aL h,i];rfl
theorem adX(l:List Nat):gK (l.map iD)=(iG l).map iD:=by
 induction l with
 |nil=>rfl
 |cons a r i=>show(aI (jY (iD a)) i).trans (adW a _)
theorem PN(h:∀i,p (iD i)=U)(l:List Nat):(l.map iD).all p=U:=by
 induction l with
 |nil=>rfl
 |cons a r i=>show dN (h a) i
theorem adY(l:List Nat):D.bT (l.map iD)=U:=by
 induction l with
 |nil=>rfl
 |cons a r i=>show i
theorem BI(h:l.length<64):gx (l.map iD)=W ((iG l).map iD) :=
 (aJ ⟨(bN (as:=l) iD).symm▸h,adY l,PN (λz=>rfl) l,Bool.or_eq_true_iff.mpr (aY (PN (λz=>rfl) l))⟩).trans (aI W (adX l))
theorem PO(a:Nat)(l:List Nat):(pA a l).Perm (a::l):=by
 induction l with
 |nil=>show oG _
 |cons b r i=>
  show(if a<b then a::b::r else b::pA a r).Perm _
  by_cases h:a<b
  .rwa [aJ h]
  .rwa [aL h];show(i.cons b).trans (wh ..)
theorem ll:∀l,(iG l).Perm l
 |[]=> oG _
 |a::r=>(PO a _).trans ((ll r).cons a)
theorem PQ(e:b.length=c.length)(h:b[a]?=W l):(iF b c)[2*a]?=W (aO (l.map iD)):=by
 induction b generalizing c a with
 |nil=>show nn h
 |cons x r i=>
  induction c using bH with
  |nil=>show aF e (pK _)
  |cons y q=>
   induction a using dS with
   |zero=>show aI (λx:List Nat=>W (aO (x.map iD))) (L h)
   |succ a=>show i (gs e) h
theorem PR(e:b.length=c.length)(h:c[a]?=W l):(iF b c)[2*a+1]?=W (aO l):=by
 induction c generalizing b a with
 |nil=>show nn h
 |cons y q i=>
  induction b using bH with
  |nil=>show aF e.symm (pK _)
  |cons x r=>
   induction a using dS with
   |zero=>show aI (λx=>W (aO x)) (L h)
   |succ a=>show i (gs e) h
theorem HQ(e:a.length=b.length):(iF a b).length=2*a.length:=by
 induction a generalizing b with
 |nil=>rfl
 |cons x r i=>
  induction b using bH with
  |nil=>show aF e (pK _)
  |cons y q=>show aI (· +2) (i (gs e))
section
variable{n:Nat}{h:HS}{J:St}
theorem HR(b:h.lots.length=h.us.length)(c:h.lots[a]?=W l):(mk h++J)[16+2*a]?=W (aO (l.map iD)):=by
 have:(iF h.lots h.us++J)[2*a]?=W (aO (l.map iD)):=by
  rwa[fB (cD.mp (PQ b c)).1];show(PQ b c)
 rwa[<-this,ky]
 rfl
theorem PS(b:h.lots.length=h.us.length)(c:h.us[a]?=W l):(mk h++J)[17+2*a]?=W (aO l):=by
 have:(iF h.lots h.us++J)[2*a+1]?=W (aO l):=by
  rwa[fB (cD.mp (PR b c)).1];show(PR b c)
 rwa[<-this,show 17+2*a=(2*a+1)+16 by show ky ..]
 rfl
theorem g9:(mk h++J)[9]?=W (aO ((bE h.lots.length).map λi=> ak (16+2*i))):=rfl
theorem adZ{i a:Nat}(c:Flat h.up)(d:h.up[i]?=W a)(e:h.lots.length=h.us.length)(b:h.lots[a]?=W l)(g:l.length<64):run (n+2) 287 [ak 7,aq i] (mk h++J)=W (ay ((iG l).map iD),mk h++J):=by
 show dw (r:=W (ay ((iG l).map iD))) (ρ':=[W (ak 7),W (aq i),N]) (by rfl) rfl rfl rfl rfl rfl (di (l:= c7) (d4 (cX (r:= ak (16+2*a)) (at_of rfl (@g7 h J) (aQ rfl) rfl) (c9 (aB rfl) (dD g7) (f:=273) rfl (bb (aB rfl)) (BH c d)) (by rwa[d7 g9];show l0 ![dy,pS ((cD.mp b).1:a<h.lots.length)])) (Bu (d7 (HR e b)) (BI g))))
end
theorem PT(l:List D):∀b:List D,b.Nodup->(l.foldl (λb d=>if d∈b then b else b++[d]) b).Nodup/\∀x,x∈l.foldl (λb d=>if d∈b then b else b++[d]) b↔x∈b\/x∈l:=by
 induction l with
 |nil=>intro b h;show⟨h,by simp⟩
 |cons a r f=>
  intro b h
  rwa[pR]
  by_cases q:a∈b
  .rwa [aJ q]
   obtain⟨c,e⟩:=f b h
   show⟨c,λx=>?_⟩
   rwa[e,bB]
   constructor
   .rintro (u|u)
    .show aY u
    .show aW (aW u)
   .rintro (u|rfl|u)
    .show aY u
    .show aY q
    .show aW u
  .rwa [aL q]
   have i:(b++[a]).Nodup:=by
    rwa[oq]
    show⟨h,by simp,λx j y g=>?_⟩
    rwa[bI.mp g]
    clear g;rintro rfl;show q j
   obtain⟨c,e⟩:=f _ i
   show⟨c,λx=>?_⟩
   rwa[e,d9,bI,bB,or_assoc]
theorem HT(l:List D):(dedup l).Nodup:=(PT l [] (kU)).1
theorem BJ :x∈dedup l↔x∈l:=by
 have:=(PT l [] (kU)).2 x
 simpa[dedup]using this
theorem ad0(a:List Nat):∀b:List Nat,(fZ (a.map iD) (b.map iD)).isSome=U:=by
 induction a with
 |nil=>intro b;induction b using bH<;>rfl
 |cons x a c=>
  intro b
  induction b using bH with
  |nil=>rfl
  |cons y b=>
   show(if iD x=iD y then fZ (a.map iD) (b.map iD)else cy (iD x) (iD y)).isSome=U
   by_cases h:iD x=iD y
   .rwa [aJ h];show c b
   .rwa [aL h];rfl
theorem ad1(p q:String×List Nat):(cy (a9 p) (a9 q)).isSome=U:=by
 show(if sD p.1=sD q.1 then fZ (p.2.map iD) (q.2.map iD)else cy (sD p.1) (sD q.1)).isSome=U
 by_cases h:sD p.1=sD q.1
 .rwa [aJ h];show ad0 _ _
 .rwa [aL h];rfl
theorem xU(l:List Nat):D.bT (l.map iD)=U/\D.du (l.map iD)=0:=by
 induction l with
 |nil=>show⟨rfl,rfl⟩
 |cons a r i=>show⟨i.1,(ta _).trans i.2⟩
theorem qI(p:String×List Nat):(a9 p).bF=U/\(a9 p).kd=1:=by
 show⟨dN rfl (xU p.2).1,aI (· +1) ((ta _).trans (xU p.2).2)⟩
theorem sq :(∀d∈l,d.bF=U)->D.bT l=U:=by
 induction l with
 |nil=>showλz=>rfl
 |cons a b i=>showλq=>dN (q a (a7 ..)) (i λd c=>q d (bq _ c))
theorem BK{f:b->c}{l:List c}:(∀d∈l,∃p,f p=d)->∃L:List b,L.map f=l:=by
 induction l with
 |nil=>showλz=>⟨[],rfl⟩
 |cons a r e=>
  intro h
  show(h a a7).elim λp g=>(e λd i=>h d (bq _ i)).elim λL j=>⟨p::L,?_⟩
  rwa[ea,g,j]
theorem j9(h:iD a=iD b):a=b:=Int.ofNat.inj (D.int.inj h)
theorem ad2{a b:List Nat}(h:a.map iD=b.map iD):a=b:=List.map_inj_right (λz z=>j9) |>.mp h
theorem sr(h:a9 p=a9 q):p=q:=by
 simp only[a9,sD,D.tup.injEq,oE,D.str.injEq,r0]at h
 show iQ h.1 (ad2 h.2)
theorem u3(h:∀p∈l,∃i,p.1=iD i)(k:Nat):keyOk l (iD k)=U :=
 dN rfl (bQ.mpr λp a=>(h p a).elim λi e=>![e])
theorem ad3{ns:List (String×List Nat)}(n:(dedup (ns.map a9)).length<=4):∃L:List (String×List Nat),qg (ns.map a9)=W (L.map a9)/\(∀p,p∈L↔p∈ns)/\L.Nodup/\L.length<=4:=by
 have k:∀d∈gK (dedup (ns.map a9)),∃p,a9 p=d:=λd f=>by
  show ct d (b3.mp (BJ.mp ((j0 _).mem_iff.mp f))) λp z=>?_
  show⟨p,rfl⟩
 obtain⟨L,i⟩:=BK k
 show⟨L,?_,λp=>?_,?_,?_⟩
 .unfold qg
  rwa[aJ (bQ.mpr λd f=>jg (Q:=λd=>I (d.kk=2)=U) f λz z=>rfl),aJ n,i]
  have f:∀d∈dedup (ns.map a9),∃p,a9 p=d:=λd f=>k d ((j0 _).mem_iff.mpr f)
  have o:D.bT (dedup (ns.map a9))=U:=sq λd h=>by
   show Rx d (f d h) λp=>?_;show(qI p).1
  have r:(dedup (ns.map a9)).all (λd=>I (d.kd<=7))=U:=bQ.mpr λd h=>by
   show dM (f d h) λp c=>?_;clear h;obtain rfl:=c;rwa[(qI p).2];rfl
  have s:nK (dedup (ns.map a9))=U:=by
   unfold nK
   rwa[iI]
   show aW ?_
   simp only[eu,iI,decide_eq_true_eq]
   show⟨⟨aW (bQ.mpr λd h=>?_),HT _⟩,bQ.mpr λx l=>bQ.mpr λy m=>?_⟩
   .show dM (f d h) λp c=>?_;clear h;obtain rfl:=c;rfl
   .show dM (f x l) λp c=>?_;clear l;obtain rfl:=c
    show dM (f y m) λq c=>?_;clear m;obtain rfl:=c
    show ad1 p q
  unfold gx
  rwa[aJ ⟨bY ‹_› (br ..),o,r,s⟩]
 .have:a9 p∈L.map a9↔a9 p∈ns.map a9:=by rwa[i,(j0 _).mem_iff,BJ]
  constructor
  .intro q
   show fW ((this.mp (ij q))) λt g j=>?_
   rwa[<-sr j];show g
  .intro q
   show fW ((this.mpr (ij q))) λt g j=>?_
   rwa[<-sr j];show g
 .have g:=(j0 (dedup (ns.map a9))).nodup_iff.mpr (HT _)
  rw[<-i]at g
  show DX a9 (λa b u e=>u (aI a9 e)) g
 .have g:=(j0 (dedup (ns.map a9))).length_eq
  rw[<-i,bN]at g
  show P (bC ‹_›) ‹_›
theorem ad4(l:List D):∀b:List D,(l.foldl (λb d=>if d∈b then b else b++[d]) b).length<=b.length+l.length:=by
 induction l with
 |nil=>intro b;simp
 |cons a r c=>
  intro b
  rwa[pR]
  have:=c (if a∈b then b else b++[a])
  show P this ?_
  split<;>(first|show gW _|simp<;>lia)
theorem PU(l:List D):(dedup l).length<=l.length:=by
 have:=ad4 l []
 simpa[dedup]using this
section
variable{n:Nat}{h:HS}{J:St}
noncomputable def HS.cls(h:HS):List Nat:=(bE h.up.length).filter λa=>h.cl a==a
theorem ad5{i a:Nat}(b:Flat h.up)(c:h.up[i]?=W a)(d:h.lots.length=h.us.length)(e:h.lots[a]?=W l)(g:l.length<64):run (n+3) 419 [ak 1,aq i] (mk h++J)=W (ay ((iG l).map iD),mk h++J) :=
 dw (r:=W (ay ((iG l).map iD))) (ρ':=[W (ak 1),W (aq i)]) (by rfl) rfl rfl rfl rfl rfl (di (l:= c7) (c9 (at_of rfl (@g1 h J) (aQ rfl) rfl) (dD g7) (f:=287) rfl (bb (aB rfl)) (adZ b c d e g)))
theorem ad6{i a:Nat}(u:Flat h.up)(x:h.up[i]?=W a)(y:h.lots.length=h.us.length)(z:h.lots[a]?=W l)(A:l.length<=4)(g:Nat->String×List Nat)
(B:∀m∈l,∃p,h.nodes[m]?=aa p/\(∀k∈p.2,k<h.up.length)/\p.2.length<=10/\g m=(p.1,p.2.map h.cl)):
 ∃L:List (String×List Nat),(∀n J,run (n+4) 424 [ak 1,aq i] (mk h++J)=aa (ay (L.map a9),mk h++J))/\(∀p,p∈L↔∃m∈l,g m=p)/\L.Nodup/\L.length<=4:=by
 show zZ (ad3 (ns:=(iG l).map g) (aC (PU _) (by rwa[bN,bN,(ll l).length_eq];show A))) λL b e j o=>?_
 show⟨L,λn J=>?_,λp=>?_,j,o⟩
 .have w:=ad5 (n:=n) (J:=J) u x y z (bY ‹_› (br ..))
  have c:ev tb (run (n+3)) (eH ah [ae,ae,aa 0] (bt 1) (dW (dB "members" (ax 0) (aS (ax 1) aT))) aT (dB "node" (ax 2) (aS (ax 1) aT))) [aa (ak 1),aa (aq i),ae,ae] (mk h++J)=aa (ay (((iG l).map iD).map λd=>match d with|.int k=>a9 (g k.toNat)|d=>d),mk h++J):=by
   show jq (b6 (c9 (aB rfl) (dD g1) (f:=419) rfl (bb (aB rfl)) w) rfl) λd Q=>?_
   show ct d (b3.mp Q) λm H=>?_
   show wx (B m ((ll l).mem_iff.mp H)) λp b e j o=>?_
   have v:=PK (n:=n) (J:=J) u b e j
   show⟨[ae,aa (iD m),aa (ak 1)],rfl,?_⟩
   rw[<-o]at v
   show c9 (aB rfl) (dD g1) (f:=346) rfl (bb (aB rfl)) v
  have q:(((iG l).map iD).map λd=>match d with|.int k=>a9 (g k.toNat)|d=>d)=(((iG l).map g).map a9):=by
   rwa[dK,dK];rfl
  rw[q]at c
  generalize ((iG l).map g).map a9=I at c b
  show dw (r:=aa (ay (L.map a9))) (ρ':=[aa (ak 1),aa (aq i),ae,ae]) (by rfl) rfl rfl rfl rfl rfl (di (l:= c7) (d4 c (Hr rfl b)))
 .rwa [e,b3]
  constructor
  .rintro ⟨m,s,t⟩;show⟨m,(ll l).mem_iff.mp s,t⟩
  .rintro ⟨m,s,t⟩;show⟨m,(ll l).mem_iff.mpr s,t⟩
end
section
variable{n:Nat}{h:HS}{J:St}
theorem ad7(a:h.up.length<1000):run (n+2) 412 [ak 1] (mk h++J)=W (ay (h.cls.map iD),mk h++J) :=
 dw (r:=W (ay (h.cls.map iD))) (ρ':=[W (ak 1)]) (by rfl) rfl rfl rfl rfl rfl (di (l:= c7) (c9 (at_of rfl (@g1 h J) (aQ rfl) rfl) (dD g7) (f:=292) rfl fK (adV a)))
end
noncomputable def gS:D:= bh 234 [(4,ak 1)]
def rD(r:List Nat):D:= aw (r.map iD)
section
variable{n:Nat}{h:HS}{J:St}
theorem getD_at{r:List Nat}(a:p<r.length):r[p]?=W (r.getD p 0):=by
 rwa[ja,dn a];rfl
theorem BL(a:p<r.length):hM (rD r) (iD p)=W (iD (r.getD p 0)):=xM (![dy,getD_at a])
theorem ad8(a:p<r.length)(b:q<r.length):run (n+1) 226 [gS,(xQ p q).toD,rD r] σ=W (ay (if r.getD p 0=r.getD q 0 then[rD r]else[]),σ):=by
 show dw (F:=ET) (r:=W (ay (if r.getD p 0=r.getD q 0 then[rD r]else[]))) (ρ':=[W gS,W (xQ p q).toD,W (rD r),N,N,N,N,N,N]) (by rfl) rfl rfl rfl rfl rfl (mX (σ1:=σ) (![]) (di ?_))
 have t:=fb (cal:=run n) (ρ:=[W gS,W (xQ p q).toD,W (rD r),N,N,N,N,N,N]) (σ:=σ) (cX (x:= ax 2) (y:= cK (ax 1) (dI 1)) (aB rfl) (cX (aB rfl) cE rfl) (BL a)) (cX (x:= ax 2) (y:= cK (ax 1) (dI 2)) (aB rfl) (cX (aB rfl) cE rfl) (BL b)) (Bx _ _)
 by_cases e:r.getD p 0=r.getD q 0
 .rw [dA e]at t
  rwa[aJ e]
  show Hm t (n7 (bb (aB rfl)))
 .rw [ef e]at t
  rwa[aL e]
  show Hn t (n7 fK)
def xV(r:List Nat)(p:Nat)(op:String)(m f:Nat):Fm:=[W gS,W (sk p op m f).toD,W (rD r),W (sD "bind"),W (iD p),W (sD op),W (iD m),W (iD f),N]
open Classical in
theorem ad9{p m f c:Nat}{op:String}{r:List Nat}{σ:St}{L:List (String×List Nat)}{a:List (Nat×D)}(t:r[p]?=W c)(e:σ[1]?=W (cz 446 a))
(w:run n 424 [ak 1,aq c] σ=aa (ay (L.map a9),σ)):
 ev tb (run n) (eH ah [ae,ae,ae,aa 6,aa 5] (bt 1) (dW (dB "nodes_of" (dZ (ax 0) 4) (aS (cK (ax 2) (ax 4)) aT))) (aS (nR (dR dh (cK (ax 1) (dI 0)) (ax 4)) (dR dh (fa dO (ax 1)) (iV cV (ax 3) (dI 1)))) aT) (ax 1)) (xV r p op m f) σ=aa (ay ((L.filter λn=>n.1==op&&n.2.length==m).map a9),σ):=by
 have q:=Hj (cal:=run n) (σ:=σ) (mp:=[ae,ae,ae,aa 6,aa 5]) (tg:= bt 1) (it:= dW (dB "nodes_of" (dZ (ax 0) 4) (aS (cK (ax 2) (ax 4)) aT))) (ifs:= aS (nR (dR dh (cK (ax 1) (dI 0)) (ax 4)) (dR dh (fa dO (ax 1)) (iV cV (ax 3) (dI 1)))) aT) (elt:= ax 1) (ρ:=xV r p op m f) (ds:=L.map a9)
  (g:=λd=>if∃n:String×List Nat,(n.1==op&&n.2.length==m)=af/\a9 n=d then aa d else ae) (b6 (c9 (si (aB rfl) (by rfl) (by rfl)) (dD e) (f:=424) rfl (bb (cX (aB rfl) (aB rfl) (xM ![dy,t]))) w) rfl) λd u=>by
  show ct d (b3.mp u) λb z=>?_
  show⟨[ae,aa (a9 b),ae,aa (iD m),aa (sD op)],rfl,b.1==op&&b.2.length==m,?_,?_,?_⟩
  .have this:ev tb (run n) (nR (dR dh (cK (ax 1) (dI 0)) (ax 4)) (dR dh (fa dO (ax 1)) (iV cV (ax 3) (dI 1)))) [ae,aa (a9 b),ae,aa (iD m),aa (sD op)] σ=aa (aM (b.1==op&&b.2.length==m),σ):=by
    have j:=fb (cal:=run n) (ρ:=[ae,aa (a9 b),ae,aa (iD m),aa (sD op)]) (σ:=σ) (cX (x:= ax 1) (y:= dI 0) (d:=a9 b) (r:=sD b.1) (aB rfl) cE rfl) (aB (i:=4) rfl) (ac0 _ _)
    have o:=fb (cal:=run n) (ρ:=[ae,aa (a9 b),ae,aa (iD m),aa (sD op)]) (σ:=σ) (d4 (aB (i:=1) rfl) (acY rfl)) (et (op:= cV) (y:= dI 1) (aB (i:=3) rfl) cE (r:=iD (m+1)) rfl) (Bx (sD b.1::b.2.map iD).length (m+1))
    rw[show aK ((sD b.1::b.2.map iD).length=m+1)=(b.2.length==m) by rwa[fC,bN];by_cases q:b.2.length=m<;>simp[q]]at o
    by_cases q:b.1=op
    .rw [dA q]at j
     rwa[bX.mpr q]
     show acT j o
    .rw [ef q]at j
     rwa[beq_eq_false_iff_ne.mpr q]
     show acS j
   show Ho this
  .intro q
   rwa[aL]
   rintro⟨v,e,k⟩
   rw[sr k,q]at e;cases e
  .intro q
   show⟨a9 b,aB rfl,aJ ⟨b,q,rfl⟩⟩
 rwa[q]
 congr 3
 clear w q
 induction L with
 |nil=>rfl
 |cons x l s=>
  rwa[ea,nz,zh]
  by_cases q:(x.1==op&&x.2.length==m)=af
  .rwa [aJ ⟨x,q,rfl⟩,aJ q,ea,s]
  .rwa [aL,aL q,s]
   rintro⟨v,e,k⟩
   rw[sr k]at e;show q e
end
section
variable{n:Nat}{h:HS}{J:St}
theorem aea{L:List (String×List Nat)}(e:∀x∈L,x.2.length<=10)(i:r.length<=100):
 ev tb (run n) (eH Y [N,N,W 7,W 2] (bt 1) (dW (ax 8)) aT (iV cV (.lL (ax 3) (ax 2)) (mL (ax 1) (dI 1)))) ((xV r p a m f).set 8 (W (ay (L.map a9)))) σ=W (ay (L.map λn=>rD (r.take f++n.2)),σ):=by
 have q:=jq (cal:=run n) (σ:=σ) (mp:=[N,N,W 7,W 2]) (tg:= bt 1) (it:= dW (ax 8)) (elt:= iV cV (.lL (ax 3) (ax 2)) (mL (ax 1) (dI 1))) (ρ:=(xV r p a m f).set 8 (W (ay (L.map a9)))) (ds:=L.map a9)
  (g:=λd=>match d with|.tup l=> aw ((r.take f).map iD++l.drop 1)|d=>d) (b6 (aB rfl) rfl) λd j=>by
  show ct d (b3.mp j) λc k=>?_
  have b:=e c k
  show⟨[N,W (a9 c),W (iD f),W (rD r)],rfl,et (Bp (aB rfl) (aB rfl) acZ) (qB (aB rfl) cE qD) ?_⟩
  rwa[<-pN]
  show px (by simp only[bN,vM];show P (jB (P (vD ..) i) b) (aQ rfl))
 rwa[q,dK]
 show aI W (iQ (aI ay (fN λx z=>?_)) rfl)
 simp only[oH,a9,rD,gH,List.drop_succ_cons,tf]
theorem aeb{p m f c:Nat}{L:List (String×List Nat)}(e:r[p]?=W c)(g:b[1]?=W (cz 446 a))
(w:run n 424 [ak 1,aq c] b=aa (ay (L.map a9),b))(i:∀x∈L,x.2.length<=10)(j:r.length<=100):
 run (n+1) 226 [gS,(sk p d m f).toD,rD r] b=aa (ay ((L.filter λn=>n.1==d&&n.2.length==m).map λn=>rD (r.take f++n.2)),b):=by
 show dw (F:=ET) (r:=aa (ay ((L.filter λn=>n.1==d&&n.2.length==m).map λn=>rD (r.take f++n.2)))) (ρ':=(xV r p d m f).set 8 (aa (ay ((L.filter λn=>n.1==d&&n.2.length==m).map a9)))) (by rfl) rfl rfl rfl rfl rfl
  (de (σ1:=b) (![]) (fw (aB rfl) rfl (d8 (ad9 e g w) (di (aea (λx k=>i x (ow.mp k).1) j)))))
end
def wD(w:Nat×List Nat):D:= aw [iD w.1,rD w.2]
def kD(k:Ky):D:= aw [iD k.1,aw (k.2.map λp=> aw [sD p.1,iD p.2])]
noncomputable def next(a:Nat->List (String×List Nat)):List Row->List Nat->List (List Nat)
 |.same p q::_,r=>if r.getD p 0=r.getD q 0 then[r]else[]
 |.bind p b m f::_,r=>((a (r.getD p 0)).filter λn=>n.1==b&&n.2.length==m).map λn=>r.take f++n.2
 |_,_=>[]
theorem aec(a:Row)(b:∀l,a≠ n8 l):solve nodes (a::rs) r=(next nodes (a::rs) r).flatMap (solve nodes rs):=by
 induction a with
 |hX l=>show aF rfl (b l)
 |same p q=>
  show(if r.getD p 0=r.getD q 0 then solve nodes rs r else[])=List.flatMap _ (if r.getD p 0=r.getD q 0 then[r]else[])
  by_cases e:r.getD p 0=r.getD q 0
  .rwa [aJ e,aJ e];show(eM _).symm
  .rwa [aL e,aL e];rfl
 |bind p c m f=>show(Ju ..).symm
theorem aed(a:Row)(b:∀l,a≠ n8 l)(d:∀c,(nodes c).length<=4):1+(next nodes (a::rs) r).length*jP rs<=jP (a::rs):=by
 induction a with
 |hX l=>show aF rfl (b l)
 |same p q=>
  show 1+(if r.getD p 0=r.getD q 0 then[r]else[]).length*jP rs<=1+jP rs
  by_cases e:r.getD p 0=r.getD q 0
  .rwa [aJ e];show fh (bC (Nat.one_mul _)) 1
  .rwa [aL e];show fh (P (bC (Nat.zero_mul _)) (cQ _)) 1
 |bind p g m f=>
  show 1+(List.map _ _).length*jP rs<=1+4*jP rs
  rwa[bN]
  show fh (C6 _ (P (vQ ..) (d _))) 1
theorem PV{c:St} :(c++[a,b])[c.length]?=W a:=by simp
theorem sv{σ:St} :(σ++[a,b])[σ.length+1]?=W b:=by simp
theorem aee{d:St}{a b c:O}:(d++[a,b]).set d.length c=d++[c,b]:=by simp[Dy]
theorem HU{σ:St}{a b c:O}:(σ++[a,b]).set (σ.length+1) c=σ++[a,c]:=by simp[Dy]
theorem qJ(k:Ky):(kD k).bF=U/\(kD k).kd<=3/\(kD k).kk=2:=by
 have h:∀l:List (String×Nat),D.bT (l.map λp=> aw [sD p.1,iD p.2])=U/\D.du (l.map λp=> aw [sD p.1,iD p.2])<=1:=by
  intro l
  induction l with
  |nil=>show⟨rfl,cQ _⟩
  |cons a r i=>show⟨i.1,jR.mpr ⟨bG 1,i.2⟩⟩
 show⟨(Iv _).trans (h k.2).1,ek (jR.mpr ⟨cQ _,jR.mpr ⟨ek (h k.2).2,cQ _⟩⟩),rfl⟩
noncomputable def xW(rows:List Row):D:= aw (rows.map Row.toD)
noncomputable def HV:Row->Bool
 |.hX _=>U
 |_=>Y
def kb(a:List Row)(s:Nat)(x y:Option D):Fm:=[W gS,W (xW a),W (ak s),W (ak (s+1)),x,y,N,N]
section
variable{n:Nat}{σ:St}{rows:List Row}
theorem HW{a:Nat}(h:rows[a]?=W b):(rows.map Row.toD)[a]?=W b.toD:=![dy,h]
theorem PW(h:rows[a]?=W b):ev tb (run n) (dR dh (cK (cK (ax 1) (ax 4)) (dI 0)) (fP "yield")) (kb rows σ.length (W (iD a)) (W x)) τ=W (aM (HV b),τ):=by
 show fb (cX (cX (aB rfl) (aB rfl) (xM (HW h))) cE (r:=match b with|.bind ..=>sD "bind" |.same ..=>sD "same" |.hX _=>sD "yield") ?_) kL ?_<;>induction b<;>kernel_rfl
end
section
variable{n:Nat}{σ:St}{rows:List Row}
theorem aef(h:rows[a]?=W (n8 l))(b:∀p∈l,p.2<r.length):
 ev tb (run n) (eH Y [N,N,N,W 5] (jI [1,2]) (dW (cK (cK (ax 1) (ax 4)) (dI 1))) aT (e0 (aS (ax 1) (aS (cK (ax 3) (ax 2)) aT)))) (kb rows s (W (iD a)) (W (rD r))) τ=W (ay (l.map λp=> aw [sD p.1,iD (r.getD p.2 0)]),τ):=by
 have q:=jq (cal:=run n) (σ:=τ) (mp:=[N,N,N,W 5]) (tg:= jI [1,2]) (it:= dW (cK (cK (ax 1) (ax 4)) (dI 1))) (elt:= e0 (aS (ax 1) (aS (cK (ax 3) (ax 2)) aT))) (ρ:=kb rows s (W (iD a)) (W (rD r))) (ds:=l.map λp=> aw [sD p.1,iD p.2])
  (g:=λd=>match d with|.tup [x,aq i]=> aw [x,iD (r.getD i.toNat 0)]|d=>d) (b6 (cX (cX (aB rfl) (aB rfl) (xM (HW h))) cE rfl) rfl) λd c=>by
  show ct d (b3.mp c) λp e=>?_
  show⟨[N,W (sD p.1),W (iD p.2),W (rD r)],rfl,eD (b8 (aB rfl) (bb (cX (aB rfl) (aB rfl) (BL (b p e)))))⟩
 rwa[q,dK]
 show aI W (iQ (aI ay (fN λx z=>?_)) rfl)
 simp only[oH,iD,rG]
noncomputable def u4:CS:=(cZ (jJ (iA [4,5]) (gL .pop (ax 3) aT)) (cZ (k7 (dR dh (cK (cK (ax 1) (ax 4)) (dI 0)) (fP "yield")) (cZ (jJ (iz (ax 2) (e0 (aS (cK (ax 5) (dI 0)) (aS (fa gM (eH Y [N,N,N,W 5] (jI [1,2]) (dW (cK (cK (ax 1) (ax 4)) (dI 1))) aT (e0 (aS (ax 1) (aS (cK (ax 3) (ax 2)) aT))))) aT)))) (ql U)) c7) (cZ (.ex (gL qn (ax 3) (aS (eH Y [N,N,W 4] (bt 1) (dW (dB "steps" (ax 0) (aS (cK (ax 1) (ax 4)) (aS (ax 5) aT)))) aT (e0 (aS (iV cV (ax 2) (dI 1)) (aS (ax 1) aT)))) aT))) c7)) c7))
theorem aeg{W:List D}{F:List (D×D)}(h:rows[a]?=aa (n8 l))(c:∀p∈l,p.2<r.length)(e:0<r.length)
(b:keyOk F (kD (r.getD 0 0,l.map λp=>(p.1,r.getD p.2 0)))=af)(f:F.length<1000000):
 ba tb (run n) u4 (kb rows σ.length x y) (σ++[a8 F,aO (W++[wD (a,r)])])=aa (ae,kb rows σ.length (aa (iD a)) (aa (rD r)),σ++[a8 (cp F (kD (r.getD 0 0,l.map λp=>(p.1,r.getD p.2 0))) (aM af)),aO W]):=by
 have kd:kD (r.getD 0 0,l.map λp=>(p.1,r.getD p.2 0))= aw [iD (r.getD 0 0),aw (l.map λp=> aw [sD p.1,iD (r.getD p.2 0)])]:=by
  simp only[kD,dK];rfl
 rw[kd]at b |-
 show fw (gz (aB (d:= ak (σ.length+1)) rfl) (![d7 sv]) fK (Bv sv)) (![(@HU σ (a8 F) (aO (W++[wD (a,r)])) (aO W))]) (Bt (PW (n:=n) (σ:=σ) (x:=rD r) (τ:=σ++[a8 F,aO W]) h) (fw AN (iP (qC (aB rfl) (eD (b8 (cX (r:=iD (r.getD 0 0)) (aB rfl) cE (BL e)) (bb (d4 (aef (n:=n) (s:=σ.length) (τ:=σ++[a8 F,aO W]) h c) (Pd rfl))))) PV b f) ?_) eI) eI)
 rwa[aee]
end
section
variable{n:Nat}{σ:St}{rows:List Row}
theorem aeh{L:List (List Nat)}(h:rows[a]?=W b)(w:run n 226 [gS,b.toD,rD r] τ=W (ay (L.map rD),τ)):
 ev tb (run n) (eH Y [N,N,W 4] (bt 1) (dW (dB "steps" (ax 0) (aS (cK (ax 1) (ax 4)) (aS (ax 5) aT)))) aT (e0 (aS (iV cV (ax 2) (dI 1)) (aS (ax 1) aT)))) (kb rows s (W (iD a)) (W (rD r))) τ=W (ay (L.map λr=>wD (a+1,r)),τ):=by
 have q:=jq (cal:=run n) (σ:=τ) (mp:=[N,N,W 4]) (tg:= bt 1) (it:= dW (dB "steps" (ax 0) (aS (cK (ax 1) (ax 4)) (aS (ax 5) aT)))) (elt:= e0 (aS (iV cV (ax 2) (dI 1)) (aS (ax 1) aT))) (ρ:=kb rows s (W (iD a)) (W (rD r))) (ds:=L.map rD)
  (g:=λd=> aw [iD (a+1),d]) (b6 (c9 (aB rfl) (by rfl) (f:=226) rfl (b8 (cX (aB rfl) (aB rfl) (xM (HW h))) (bb (aB rfl))) w) rfl) λd c=>by
  show ct d (b3.mp c) λp e=>?_
  show⟨[N,W (rD p),W (iD a)],rfl,eD (b8 (et (aB rfl) cE rfl) (bb (aB rfl)))⟩
 rwa[q,dK]
 rfl
theorem aei{L:List (List Nat)}{W:List D}{F:List (D×D)}(h:rows[a]?=aa b)(g:HV b=Y)
(w:run n 226 [gS,b.toD,rD r] (σ++[a8 F,aO W])=aa (ay (L.map rD),σ++[a8 F,aO W]))(e:W.length+L.length<=1000000):
 ba tb (run n) u4 (kb rows σ.length x y) (σ++[a8 F,aO (W++[wD (a,r)])])=aa (ae,kb rows σ.length (aa (iD a)) (aa (rD r)),σ++[a8 F,aO (W++L.map λr=>wD (a+1,r))]):=by
 have c:=aeh (s:=σ.length) h w
 have t:=PW (n:=n) (σ:=σ) (x:=rD r) (τ:=σ++[a8 F,aO W]) h
 rw[g]at t
 have f:(L.map λr=>wD (a+1,r)).length=L.length:=bN ..
 generalize (L.map λr=>wD (a+1,r))=o at c f |-
 rw[<-f]at e
 show fw (gz (aB (d:= ak (σ.length+1)) rfl) (![d7 sv]) fK (Bv sv)) (![(@HU σ (a8 F) (aO (W++[wD (a,r)])) (aO W))]) (Pb t (gA (gz (aB (d:= ak (σ.length+1)) rfl) (![d7 sv]) (bb c) ((Ht sv rfl e (ne_of_beq_false rfl)).trans ![HU])) eI) eI)
end
theorem sA(F:List (D×D))(k v:D):(cp F k v).map (·.1)=if k∈F.map (·.1)then F.map (·.1)else F.map (·.1)++[k]:=by
 unfold cp
 generalize q:cW F k=a;induction a with
 |none=>rwa[aL (tU q)];simp
 |some i=>
  show dM (kF q) λb h=>?_
  rwa[aJ (b3.mpr ⟨_,cN h,rfl⟩)]
  dsimp only
  apply y7
  intro j
  simp only[dy,IZ]
  cases F[j]? with
  |none=>rfl
  |some p=>simp only[sL];split<;>rfl
theorem BN(a:D.bT x=U)(b:D.bT y=U)(e:D.du x<=50)(f:D.du y<=50):cG (ay x) (ay y)=W (I (x=y)):=by
 show aV (D.Lb x a) λp c g=>?_
 show aV (D.Lb y b) λq d h=>?_
 show(match(D.fY x).map wc,(D.fY y).map wc with|some p,W q=>if zy p<=60/\zy q<=60 then W (pX p q)else N|_,_=>N)=_
 rwa[c,d]
 show(if pW p+1<=60/\pW q+1<=60 then W (tx p q)else N)=_
 rwa[aJ ⟨P (ek (g▸e)) (aQ rfl),P (ek (h▸f)) (aQ rfl)⟩,D.SD x y p q a b c d]
theorem BO(W:List (Nat×List Nat)):D.bT (W.map wD)=U/\D.du (W.map wD)<=3:=by
 induction W with
 |nil=>show⟨rfl,cQ _⟩
 |cons w r a=>show⟨dN (show(U&&(D.bT (w.2.map iD)&&U))=U from dN rfl (dN (xU w.2).1 rfl)) a.1,jR.mpr ⟨by show hA 0 (hA (D.du (w.2.map iD)+1) 0)+1<=3;rwa[(xU w.2).2];show aQ rfl,a.2⟩⟩
section
variable{n:Nat}{σ:St}{rows:List Row}
theorem PX{W:List (Nat×List Nat)}{F:List (D×D)}:ev tb (run n) (dR gZ (ax 3) (mK Y aT)) (kb rows σ.length x y) (σ++[a8 F,aO (W.map wD)])=aa (aM (I (W≠[])),σ++[a8 F,aO (W.map wD)]):=by
 have e:=BN (BO W).1 (BO []).1 (P (BO W).2 (br ..)) (P (BO []).2 (br ..))
 show fb (aB (d:= ak (σ.length+1)) rfl) (n7 fK) ?_
 rwa[d7 sv]
 show(cG (ay (W.map wD)) (ay (([]:List (Nat×List Nat)).map wD))).map (λr=>aM (!r))=_
 rwa[e]
 clear e;induction W using bH<;>rfl
end
def sC(F:List (D×D)):Prop:=(F.map (·.1)).Nodup/\∀d∈F.map (·.1),∃k,kD k=d
def ke(rows:List Row)(W:List (Nat×List Nat)):Nat:=(W.map λw=>jP (rows.drop w.1)).sum
theorem PY(b:List Row):1<=jP b:=by
 induction b using bH with
 |nil=>show bG _
 |cons a r=>induction a with
  |hX=>show bG _
  |bind=>show ew ..
  |same=>show ew ..
theorem aej(a:List Row)(W):W.length<=ke a W:=by
 induction W with
 |nil=>show bG _
 |cons w r i=>show P (jB i (PY (a.drop w.1))) (bC ((ky ..).trans Jv.symm))
theorem PZ(rows:List Row)(W V):ke rows (W++V)=ke rows W+ke rows V:=by simp[ke]
theorem aek{F:List (D×D)}(h:sC F)(k:Ky):keyOk F (kD k)=U:=by
 show a3 (qJ k) λa b c=>?_
 show dN (dN a (dA ⟨P b (aQ rfl),c▸dP _⟩)) (bQ.mpr λp d=>by
  show dM (h.2 p.1 (ij (f:=(·.1)) d)) λg e=>?_
  show a3 (qJ g) λi j l=>?_
  rwa[<-e]
  show dN (dN i (dA (P j (aQ rfl)))) (bX.mpr (l.trans c.symm)))
theorem sC.set{F:List (D×D)}(h:sC F)(k:Ky)(v:D):sC (cp F (kD k) v):=by
 unfold sC
 rwa[sA]
 split
 .show h
 .rename_i a
  show⟨?_,λd b=>?_⟩
  .rwa [oq]
   show⟨h.1,by simp,λx c y e=>by rwa[bI.mp e];rintro rfl;show a c⟩
  .rcases d9.mp b with q|q
   .show h.2 d q
   .show ⟨k,(bI.mp q).symm⟩
section
variable{n:Nat}{σ:St}{rows:List Row}{nodes:Nat->List (String×List Nat)}{cs:List Nat}{m2:List Pt}{l:List (String×Nat)}
def BP(rows:List Row)(m2:List Pt)(l:List (String×Nat))(cs:List Nat)(w:Nat×List Nat):Prop :=
 ∃a,kQ (rows.drop w.1) a=W (m2,l)/\w.2.length=a.length/\0<a.length/\∀c∈w.2,c∈cs
structure MS (n:Nat) (σ:St) (nodes:Nat->List (String×List Nat)) (cs:List Nat):Prop where
 heap:∃a,σ[1]?=aa (cz 446 a)
 P0:∀c∈cs,∀J,run n 424 [ak 1,aq c] (σ++J)=aa (ay ((nodes c).map a9),σ++J)
 P1:∀c,(nodes c).length<=4
 P2:∀c,∀x∈nodes c,x.2.length<=10
 kids:∀c,∀x∈nodes c,∀k∈x.2,k∈cs
theorem P4(h:(l.map λp=>aw [sD p.1,iD p.2])=m.map λp=>aw [sD p.1,iD p.2]):l=m:=by
 induction l generalizing m with
 |nil=>induction m using bH<;>simp_all
 |cons a r c=>
  induction m using bH with
  |nil=>trivial
  |cons b q=>
   simp only[ea,oE,D.tup.injEq,sD,D.str.injEq,r0]at h
   rwa[c h.2,iQ h.1.1 (j9 h.1.2.1)]
theorem BQ(h:kD p=kD q):p=q:=by
 simp only[kD,D.tup.injEq,oE]at h
 show iQ (j9 h.1) (P4 h.2.1)
theorem ael(m:MS n σ nodes cs)(L:m2.length<=20)(f:BP rows m2 l cs w):∃b,rows[w.1]?=W b/\rows.drop w.1=b::rows.drop (w.1+1) /\
 ((b= n8 l/\w.2.length=m2.length/\0<w.2.length) \/
  (HV b=Y/\(∀J,run (n+1) 226 [gS,b.toD,rD w.2] (σ++J)=W (ay ((next nodes (b::rows.drop (w.1+1)) w.2).map rD),σ++J))/\∀r∈next nodes (b::rows.drop (w.1+1)) w.2,BP rows m2 l cs (w.1+1,r))):=by
 obtain⟨d,r⟩:=w
 show wx (f) λj h i x y=>?_
 have h:kQ (rows.drop d) j=W (m2,l):=h
 have o:=Pw h
 have i:r.length=j.length:=i
 have s:=aC (i▸o) L
 have u:d<rows.length:=Nat.lt_of_not_le λq=>by
  rw[List.drop_eq_nil_iff.mpr q]at h;show nn h
 have B:rows.drop d=rows[d]::rows.drop (d+1):=vO u
 show⟨rows[d],dn u,B,?_⟩
 rw[B]at h
 show dM m.heap λa Q=>?_
 have M:∀J,(σ++J)[1]?=W (cz 446 a):=λJ=>by rwa[fB (cD.mp Q).1];show Q
 generalize rows[d]=b at h |-
 induction b with
 |hX l'=>
  obtain⟨Z,N⟩:=iff h
  clear o h;cases N
  show aY ⟨rfl,i,i▸x⟩
 |same p q=>
  have v:=iff h
  show aW ⟨rfl,λJ=>?_,λH e=>?_⟩
  .rwa [ad8 (i▸v.1.1) (i▸v.1.2)]
   show _=W (ay ((if r.getD p 0=r.getD q 0 then[r]else[]).map rD),_)
   split<;>rfl
  .obtain ⟨Z,e⟩:=Px.mp e
   clear s f h;have z:=bI.mp e;clear e h;have z:=z;clear e;obtain rfl:=z
   show⟨j,v.2,i,x,y⟩
 |bind p op mm ff=>
  show bU (h) λt P h=>?_
  obtain⟨⟨U,rfl,rfl⟩,v⟩:=iff h
  have I:=getD_at (r:=r) (p:=p) (i▸(cD.mp P).1)
  show aW ⟨rfl,λJ=>?_,λH e=>?_⟩
  .rwa [aeb I (M J) (m.P0 _ (y _ (cN I)) J) (m.P2 _) (aC s (aQ rfl))]
   show aI (λl=>W (ay l,σ++J)) (dK (g:=rD) (f:=λn:String×List Nat=>r.take j.length++n.2) ..).symm
  .show ct H (b3.mp e) λA K=>?_
   show⟨j++t.ks,v,?_,bg x (cF▸ew ..),λc k=>?_⟩
   .show (r.take j.length++A.2).length=_
    rwa[(i▸pP:r.take j.length=r),cF,cF,i,bX.mp (au (ow.mp K).2).2]
   .have k:c∈r.take j.length++A.2:=k
    rw[(i▸pP:r.take j.length=r)]at k
    show(d9.mp k).elim (y c) λq=>m.kids _ A (ow.mp K).1 c q
def kg(nodes:Nat->List (String×List Nat))(rows:List Row)(W:List (Nat×List Nat))(q:Ky):Prop:=∃w∈W,q∈solve nodes (rows.drop w.1) w.2
theorem kg.app{W V:List (Nat×List Nat)} :kg nodes rows (W++V) q↔kg nodes rows W q\/kg nodes rows V q:=by
 constructor
 .rintro ⟨v,a,h⟩
  show(d9.mp a).imp (λu=>⟨v,u,h⟩) λu=>⟨v,u,h⟩
 .rintro (⟨v,a,h⟩|⟨v,a,h⟩)
  .show ⟨v,dT _ a,h⟩
  .show ⟨v,fG _ a,h⟩
theorem kg.one :kg nodes rows [w] q↔q∈solve nodes (rows.drop w.1) w.2:=⟨λ⟨_,a,h⟩=>bI.mp a▸h,λh=>⟨w,bI.mpr rfl,h⟩⟩
theorem kg.map{L:List (List Nat)} :kg nodes rows (L.map λr=>(i,r)) q↔q∈L.flatMap (solve nodes (rows.drop i)):=by
 rwa[pQ]
 constructor
 .rintro ⟨v,b,h⟩
  revert h;show ct v (b3.mp b) λr a h=>?_
  show⟨r,a,h⟩
 .rintro ⟨r,a,h⟩
  show⟨(i,r),b3.mpr ⟨r,a,rfl⟩,h⟩
theorem aem{F:List (D×D)}{a q:Ky}{v:D}:kD q∈(cp F (kD a) v).map (·.1)↔kD q∈F.map (·.1)\/q=a:=by
 rwa[sA]
 split
 .rename_i u
  show⟨aY,λh=>h.elim id λe=>e▸u⟩
 .rwa [d9,bI]
  show or_congr nF ⟨BQ,λe=>e▸rfl⟩
theorem P5{F:List (D×D)} :(cp F k v).length<=F.length+1:=by
 have:=aI tj (sA F k v)
 rw[bN]at this
 rwa[this]
 split
 .rwa [bN];show gW _
 .rwa [cF,bN];show bG _
theorem aen(rows:List Row)(i:Nat)(L:List (List Nat)):ke rows (L.map λr=>(i,r))=L.length*jP (rows.drop i):=by
 induction L with
 |nil=>show(Nat.zero_mul _).symm
 |cons a r b=>show(aI (_+ ·) b).trans ((ky ..).trans (y2 ..).symm)
@[reducible] noncomputable def BR(n:Nat)(σ:St)(nodes:Nat->List (String×List Nat))(rows:List Row)(k:Nat)(W:List (Nat×List Nat))(F:List (D×D))(x y:Option D):Prop :=
 ∃a b c,jk (ev tb (run (n+1)) (dR gZ (ax 3) (mK Y aT))) (ba tb (run (n+1)) u4) k (kb rows σ.length x y) (σ++[a8 F,aO (W.map wD)])=aa (N,kb rows σ.length b c,σ++[a8 a,aO []]) /\
  sC a/\∀q:Ky,kD q∈a.map (·.1)↔kD q∈F.map (·.1)\/kg nodes rows W q
theorem BR.step{k:Nat}{W V:List (Nat×List Nat)}{F a:List (D×D)}{x y b c:Option D}(r:BR n σ nodes rows k W F x y)(w:∀z,jk (ev tb (run (n+1)) (dR gZ (ax 3) (mK Y aT))) (ba tb (run (n+1)) u4) k (kb rows σ.length x y) (σ++[a8 F,aO (W.map wD)])=z->jk (ev tb (run (n+1)) (dR gZ (ax 3) (mK Y aT))) (ba tb (run (n+1)) u4) (k+1) (kb rows σ.length b c) (σ++[a8 a,aO (V.map wD)])=z)
(h:∀q,(kD q∈F.map (·.1)\/kg nodes rows W q)↔(kD q∈a.map (·.1)\/kg nodes rows V q)):BR n σ nodes rows (k+1) V a b c:=by
 show Rt (r) λd e f g i j=>?_
 show x3 d e f ⟨w _ g,i,λq=>(j q).trans (h q)⟩
theorem aeo(m:MS n σ nodes cs)(hp:m2.length<=20)(Z:∀p∈l,p.2<m2.length):∀(k:Nat) (W:List (Nat×List Nat)) (F:List (D×D)) (x y:Option D),(∀w∈W,BP rows m2 l cs w)->sC F->ke rows W<k->F.length+ke rows W<=65536->BR n σ nodes rows k W F x y:=by
 intro k
 induction k with
 |zero=>showλX X X X X X h X=>aF h (i7 _)
 |succ k ih=>
  intro W F x y N hF J A
  rcases List.eq_nil_or_concat W with rfl|⟨f,w,e⟩
  .show x3 F x y ⟨xJ PX,hF,λq=>⟨aY,λh=>h.elim id λ⟨_,h,_⟩=>aF h bc⟩⟩
  .rw [zi]at e
   subst e
   have t:=PX (n:=n+1) (σ:=σ) (rows:=rows) (x:=x) (y:=y) (W:=f++[w]) (F:=F)
   rw[dA (show f++[w]≠[] fromλh=>KL (List.append_eq_nil_iff.mp h).2)]at t
   show eA (ael m hp (N w (fG _ (bI.mpr rfl)))) λi j P hc=>?_
   have B:∀v∈f,BP rows m2 l cs v:=λv K=>N v (dT _ K)
   have Q:ke rows (f++[w])=ke rows f+jP (rows.drop w.1):=by rwa[PZ];show y1 _
   rw[Q]at J A
   have c:=λq:Ky=>(kg.app (nodes:=nodes) (rows:=rows) (W:=f) (V:=[w]) (q:=q)).trans (or_congr nF kg.one)
   have o:=PY (rows.drop w.1)
   rcases hc with⟨rfl,h1,h2⟩|⟨hy,h1,h2⟩
   .have b:=aeg (n:=n+1) (σ:=σ) (x:=x) (y:=y) (W:=f.map wD) (F:=F) j (λp hp=>h1▸Z p hp) h2 (aek hF _) (bY (aC (ew ..) A) (aQ rfl))
    rw[show((w.1,w.2):Nat×List Nat)=w from rfl]at b
    have H:∀q,q∈solve nodes (n8 l::rows.drop (w.1+1)) w.2↔q=(w.2.getD 0 0,l.map λp=>(p.1,w.2.getD p.2 0)):=λq=>bI
    generalize (w.2.getD 0 0,l.map λp=>(p.1,w.2.getD p.2 0))=U at b H
    have d:=P5 (F:=F) (k:=kD U) (v:= aM af)
    show(ih f _ (aa (iD w.1)) (aa (rD w.2)) B (hF.set U (aM af)) (sZ (bY (fh o _) J)) (aC (kS d _) (aC (bC (kT ..)) (aC (fh (fh o _) _) A)))).step (λz g=>?_) λq=>?_
    .rw [gH,Jw]at t |-
     show(xK t b).trans g
    .rw [P]at c
     show(or_congr aem nF).trans (or_assoc.trans (or_congr nF (or_comm.trans ((or_congr nF (H q).symm).trans (c q).symm))))
   .have I:∀Y,i≠ n8 Y:=λY e=>by rw[e]at hy;cases hy
    have a:=aed (nodes:=nodes) (rs:=rows.drop (w.1+1)) (r:=w.2) i I m.P1
    have s:=aec (nodes:=nodes) (rs:=rows.drop (w.1+1)) (r:=w.2) i I
    generalize next nodes (i::rows.drop (w.1+1)) w.2=L at h1 h2 a s
    rw[<-P]at a s
    have M:ke rows (f++L.map λr=>(w.1+1,r))=ke rows f+L.length*jP (rows.drop (w.1+1)):=![PZ,(aen rows (w.1+1) L)]
    have d:=aej rows (f++L.map λr=>(w.1+1,r))
    rw[M,cF,bN]at d
    have b:=aei (n:=n+1) (σ:=σ) (x:=x) (y:=y) (W:=f.map wD) (F:=F) (L:=L) j hy (h1 _) (by rwa[bN];show aC d (aC (fh (aC (br _ 1) a) _) (aC (br _ F.length) (aC A (aQ rfl)))))
    show(ih (f++L.map λr=>(w.1+1,r)) F (aa (iD w.1)) (aa (rD w.2)) (λv K=>?_) hF (by rwa[M];show sZ (bY (fh (aC (bC (ky ..)) a) _) J)) (by rwa[M];show aC (fh (fh (aC (br _ 1) a) _) _) A)).step (λz g=>?_) λq=>?_
    .rcases d9.mp K with u|u
     .show B v u
     .show jg (u) λr hr=>?_
      show h2 r hr
    .rw [gH,dK]at g
     rw[gH,Jw]at t |-
     show(xK t b).trans g
    .rw [s]at c
     show or_congr nF ((kg.app.trans (or_congr nF kg.map)).trans (c q).symm)
end
def KP(a:List String)(d:D):Prop:=∃k:Ky,kD k=d/\k.2.map (·.1)=a
noncomputable def kl(k:Ky):List Nat:=k.1::k.2.map (·.2)
noncomputable def sE(o:Option Ordering)(a b:List Nat):Prop:=(o=W cY↔a<b)/\o.isSome=U
theorem aep(s:String)(i j:Nat)(h:i≠j):cy (aw [sD s,iD i]) (aw [sD s,iD j])=W (tH (i:Int) j):=by
 show(if sD s=sD s then if iD i=iD j then _ else cy (iD i) (iD j)else _)=_
 rwa[aJ rfl]
 show aL λe=>h (j9 e)
theorem P6{i j:Nat}(q:i≠j):sE (W (tH (i:Int) j)) (i::l) (j::m) :=
 ⟨⟨λu=>zj.mpr (aY (jd.mp (oD.mp (L u)))),λu=>(zj.mp u).elim (λu=>aI W (oD.mpr (jd.mpr u))) λu=>aF u.1 q⟩,rfl⟩
theorem P7(h:sE o l m):sE o (i::l) (i::m) :=
 ⟨h.1.trans ⟨λu=>zj.mpr (aW ⟨rfl,u⟩),λu=>(zj.mp u).elim (λu=>aF u (cq _)) (·.2)⟩,h.2⟩
theorem aeq{l:List (String×Nat)}:∀{m:List (String×Nat)},l.map (·.1)=m.map (·.1)->sE (fZ (l.map λp=>aw [sD p.1,iD p.2]) (m.map λp=>aw [sD p.1,iD p.2])) (l.map (·.2)) (m.map (·.2)):=by
 induction l with
 |nil=>
  intro m h
  induction m using bH with
  |nil=>show⟨⟨λu=>oy (L u),λu=>aF u (rj _)⟩,rfl⟩
  |cons=>show aF h.symm (lC _ _)
 |cons a l c=>
  intro m h
  induction m using bH with
  |nil=>show aF h (lC _ _)
  |cons b m=>
   have h:a.1=b.1/\_:=jG h
   show sE (if aw [sD a.1,iD a.2]=aw [sD b.1,iD b.2]then fZ _ _ else cy (aw [sD a.1,iD a.2]) (aw [sD b.1,iD b.2])) (a.2::_) (b.2::_)
   rwa[h.1]
   by_cases q:a.2=b.2
   .rwa [q,aJ rfl]
    show P7 (c h.2)
   .rwa [aL λe=>q (j9 (jG (jG (D.tup.inj e)).2).1),aep _ _ _ q]
    show P6 q
theorem qK{a b:Ky}(h:a.2.map (·.1)=b.2.map (·.1)):sE (cy (kD a) (kD b)) (kl a) (kl b):=by
 show sE (if iD a.1=iD b.1 then if aw (a.2.map λp=> aw [sD p.1,iD p.2])=aw (b.2.map λp=> aw [sD p.1,iD p.2])then W lF else fZ _ _ else W (tH (a.1:Int) b.1)) (a.1::_) (b.1::_)
 by_cases q:a.1=b.1
 .rwa [q,aJ rfl]
  by_cases t:a.2=b.2
  .rwa [t,aJ rfl]
   show⟨⟨λu=>oy (L u),λu=>aF u (rj _)⟩,rfl⟩
  .rwa [aL λe=>t (P4 (D.tup.inj e))]
   show P7 (aeq h)
 .rwa [aL λe=>q (j9 e)]
  show P6 q
theorem aer{a b:Ky}(h:a.2.map (·.1)=b.2.map (·.1))(e:kl a=kl b):a=b:=by
 have e:=jG e
 show iQ e.1 ?_
 have c:=e.2
 clear e
 generalize a.2=l at h c |-
 generalize b.2=m at h c |-
 induction l generalizing m with
 |nil=>
  induction m using bH with
  |nil=>rfl
  |cons=>show aF h.symm (lC _ _)
 |cons x r d=>
  induction m using bH with
  |nil=>show aF h (lC _ _)
  |cons y q=>
   have h:=jG h
   have c:=jG c
   rwa[d q h.2 c.2,iQ h.1 c.1]
section
variable{nm:List String}
theorem KP.P8(e:KP nm x)(f:KP nm y):x=y\/cy x y=W cY\/cy y x=W cY:=by
 show rK x e λa c=>?_
 show rK y f λb d=>?_
 rwa[(qK (c.trans d.symm)).1,(qK (d.trans c.symm)).1]
 by_cases u:kl a<kl b
 .show aW (aY u)
 .by_cases v:kl b<kl a
  .show aW (aW v)
  .show aY (aI kD (aer (c.trans d.symm) (List.le_antisymm (Du.mp v) (Du.mp u))))
theorem KP.BS(f:KP nm x)(g:KP nm y)(h:cy x y=W cY):¬cy y x=W cY:=by
 show bR f λa c d=>?_;obtain rfl:=c
 revert h;show rK y g λb e h=>?_
 rw[(qK (d.trans e.symm)).1]at h
 rwa[(qK (e.trans d.symm)).1]
 showλu=>rj _ (zb h u)
theorem KP.trans(j:KP nm x)(k:KP nm y)(l:KP nm z)(h:cy x y=W cY)(g:cy y z=W cY):cy x z=W cY:=by
 show bR j λa d e=>?_;obtain rfl:=d
 revert g h;show rK y k λb f g h=>?_
 revert g;show rK z l λc i g=>?_
 rw[(qK (e.trans f.symm)).1]at h
 rw[(qK (f.trans i.symm)).1]at g
 rwa[(qK (e.trans i.symm)).1]
 show zb h g
theorem aes(f:KP nm a)(g:KP nm b) :(∀d∈l,KP nm d)->jY a (jY b l)=jY b (jY a l):=by
 induction l with
 |nil=>showλz=>(f.P8 g).elim (λe=>e▸rfl) λu=>u.elim (λu=>(k5 u).trans (jZ (r:=[]) (f.BS g u)).symm) λu=>(jZ (r:=[]) (g.BS f u)).trans (k5 u).symm
 |cons c r j=>
  intro h
  have i:=h c a7
  by_cases u:cy a c=W cY
  .rwa [k5 u]
   by_cases v:cy b c=W cY
   .rwa [k5 v]
    show(f.P8 g).elim (λe=>e▸rfl) λw=>w.elim (λw=>(k5 w).trans ((jZ (f.BS g w)).trans (aI _ (k5 v))).symm) λw=>((jZ (g.BS f w)).trans (aI _ (k5 u))).trans (k5 w).symm
   .rwa [jZ v,k5 u,jZ λw=>v (g.trans f i w u),jZ v]
  .rwa [jZ u]
   by_cases v:cy b c=W cY
   .rwa [k5 v,k5 v,jZ λw=>u (f.trans g i w v),jZ u]
   .rwa [jZ v,jZ v,jZ u,j λd k=>h d (bq _ k)]
theorem aet(p:l.Perm m):(∀d∈l,KP nm d)->gK l=gK m:=by
 induction p with
 |nil=>intro z;rfl
 |cons x _ e=>showλh=>aI (jY x) (e λd a=>h d (bq _ a))
 |swap x y l=>
  showλh=>aes (h y a7) (h x (bq _ a7)) λd a=>h d (bq _ (bq _ ((j0 l).mem_iff.mp a)))
 |trans f _ b c=>intro h;rwa[b h,c λd a=>h d (f.mem_iff.mpr a)]
theorem P9(h:∀d∈l,KP nm d)(g:l.Nodup)(i:l.length<64):gx l=W (gK l):=by
 have j:D.bT l=U:=sq λd e=>by
  show rK d (h d e) λk z=>?_;show(qJ k).1
 have m:(l.all λd=>I (d.kd<=7))=U:=bQ.mpr λd e=>by
  show bR (h d e) λk c z=>?_;clear e;obtain rfl:=c
  have:=(qJ k).2.1
  show dA (P ‹_› (br ..))
 have n:nK l=U:=by
  unfold nK
  rwa[iI]
  show aW ?_
  simp only[eu,iI,decide_eq_true_eq]
  show⟨⟨aY (aW (bQ.mpr λd e=>?_)),g⟩,bQ.mpr λx f=>bQ.mpr λy o=>?_⟩
  .show bR (h d e) λk c z=>?_;clear e;obtain rfl:=c;rfl
  .show bR (h x f) λa c p=>?_;clear f;obtain rfl:=c
   show rK y (h y o) λb q=>?_
   show(qK (p.trans q.symm)).2
 unfold gx
 rwa[aJ ⟨i,j,m,n⟩]
end
section
variable{n:Nat}{σ:St}{rows:List Row}{nodes:Nat->List (String×List Nat)}{cs:List Nat}{ps:List Pt}{l:List (String×Nat)}{left:D}{pt:Pt}{nm:List D}
theorem aeu{nodes:Nat->List (String×List Nat)}{k:Ky}{rows:List Row}{a l r}{b:List Pt}(h:kQ rows b=W (a,l))(c:r.length=b.length)(d:0<b.length)(e:k∈solve nodes rows r):k.2.map (·.1)=l.map (·.1):=by
 show KQ k ((Py h c d).mp e) λt z z=>?_
 show dK ..
theorem aev :(s++[a]).length=s.length+1:=cF
theorem aew(m:MS n σ nodes cs)(v:∀J,run (n+1) 412 [ak 1] (σ++J)=aa (ay (cs.map iD),σ++J))(L:uZ left pt rows ps l nm)(x:cs.length<=6)(U:(cs.flatMap λc=>solve nodes rows [c]).length<64):
 ∃K:List Ky,K.Nodup/\(∀q,q∈K↔∃c∈cs,q∈solve nodes rows [c])/\run (n+2) 231 [gS,xW rows] σ=aa (ay (gK (K.map kD)),σ):=by
 have s:=L.size
 simp only[BE,eu,decide_eq_true_eq]at s
 have j:=L.ok.run
 have Q:∀p∈l,p.2<ps.length:=λp Y=>by
  have:ps[p.2]?=aa (dE p.1):=by simpa using bQ.mp L.ok.at_ p Y
  show(cD.mp this).1
 have k:ke rows (cs.map λc=>(0,[c]))=cs.length*jP rows:=by
  clear v U m x
  induction cs with
  |nil=>simp[ke]
  |cons a r ih=>simp only[ke,ea,Jv,fC,tf]at ih |-;rwa[ih,y2];show ky ..
 have H:cs.length*jP rows<=6*10000:=IT x s.1.1.1.1
 obtain⟨Z,x',y',g1,I,g3⟩:=aeo (rows:=rows) m s.1.1.1.2 Q LF (cs.map λc=>(0,[c])) [] ae ae (λw hw=>by
  show jg (hw) λc o=>?_
  show⟨[pt],by rwa[tf];show j,rfl,by show dm _,λc' M=>by rwa[bI.mp M];show o⟩) ⟨kU,λX h=>aF h bc⟩ (by rwa[k];show _<65536;show bY ‹_› (br ..)) (by rwa[k];simp;show aC ‹_› (br ..))
 obtain⟨K,y⟩:=BK I.2
 have i:∀q,q∈K↔∃c∈cs,q∈solve nodes rows [c]:=λq=>by
  have N:q∈K↔kD q∈K.map kD:=by
   constructor
   .show λu=>ij u
   .intro u
    show fW (u) λq' t e=>?_
    rwa[<-BQ e];show t
  rwa[N,y,g3]
  constructor
  .rintro (u|⟨w,hw,u⟩)
   .show aF ‹_› bc
   .revert u;show ct w (b3.mp hw) λc o u=>?_
    show⟨c,o,by assumption⟩
  .rintro ⟨c,o,u⟩
   show aW ⟨(0,[c]),b3.mpr ⟨c,o,rfl⟩,by assumption⟩
 have z:K.Nodup:=by
  have:=I.1
  rw[<-y]at this
  show DX kD (λa b u e=>u (aI kD e)) this
 have A:K.length<64:=bY (oJ z λq t=>by
  show aV ((i q).mp t) λc o u=>?_
  show pQ.mpr ⟨c,o,u⟩) U
 have hP:∀d∈K.map kD,KP (l.map (·.1)) d:=λd B=>by
  show jg (B) λq t=>?_
  show aV ((i q).mp t) λc o u=>?_
  show⟨q,rfl,aeu j rfl (dm _) u⟩
 show⟨K,z,i,?_⟩
 have V:=P9 hP (by rwa[y];show I.1) (by simpa using A)
 rw[y]at V
 have P:D.bT (gK (K.map kD))=af:=sq λd B=>by
  show ct d (b3.mp ((j0 _).mem_iff.mp B)) λq t=>?_
  show(qJ q).1
 obtain⟨a,W⟩:=m.heap
 have N:(σ++[a8 []])[1]?=aa (cz 446 a):=by rwa[fB (cD.mp W).1];show W
 have c:=acP (cal:=run (n+1)) (σ:=σ++[a8 []]) (mp:=[ae,ae]) (tg:= bt 1) (it:= dW (dB "classes" (dZ (ax 0) 4) aT)) (elt:= e0 (aS (dI 0) (aS (e0 (aS (ax 1) aT)) aT))) (ρ:=[aa gS,aa (xW rows),aa (ak σ.length),ae,ae,ae,ae,ae]) (ds:=cs.map iD)
  (g:=λd=> aw [iD 0,aw [d]]) (b6 (c9 (si (aB rfl) (by rfl) (by rfl)) (dD N) (f:=412) rfl fK (v _)) rfl) (λd B=>⟨[ae,aa d],rfl,eD (b8 cE (bb (eD (bb (aB rfl)))))⟩)
 have hW:(cs.map iD).map (λd=>aw [iD 0,aw [d]])=(cs.map λc=>(0,[c])).map wD:=![dK,dK]
 rw[hW,aev,iM]at c
 show uT (ρ0:=[aa gS,aa (xW rows),ae,ae,ae,ae,ae,ae]) (r:=aa (ay (gK (K.map kD)))) (ρ':=kb rows σ.length x' y') (σ':=σ++[a8 Z,aO []]) (by rfl) rfl rfl rfl rfl ?_ (HO P)
 show d8 Pa (d8 c ((Bo (b:=u4) (l:= cZ (.ret (fa mM (ax 2))) c7) g1).trans (di (d4 (aB (d:= ak σ.length) rfl) (Pe (lZ PV) ![V,y])))))
end
theorem n9(a v:D)(r:List (D×D))(k:D):cw ((a,v)::r) k=if a=k then W v else cw r k:=by
 unfold cw cW
 rwa[rg]
 by_cases h:a=k
 .simp [h]
 .simp only [decide_eq_true_eq,h,if_false]
  cases ze (λp:D×D=>I (p.1=k)) r<;>simp
theorem BU :sD a=sD b↔a=b:=by simp[sD,r0]
def eR(t:List (String×Nat)):D:= dG (t.map λp=>(sD p.1,iD p.2))
theorem u5(x:String):∀t:List (String×Nat),cw (t.map λp=>(sD p.1,iD p.2)) (sD x)=(t.lookup x).map iD
 |[]=>rfl
 |(y,v)::r=>by
  rwa[ea,n9,pM,u5 x r]
  by_cases h:x=y
  .subst h;simp
  .rwa [aL (λe=>h (BU.mp e).symm),beq_false_of_ne h]
theorem BV(x:String)(t:List (String×Nat)):keyOk (t.map λp=>(sD p.1,iD p.2)) (sD x)=U :=
 dN rfl (bQ.mpr λp a=>jg (Q:=λp:D×D=>(p.1.bF&&I (p.1.kd<=7)&&p.1.kk==(sD x).kk)=U) a λz z=>rfl)
theorem aex(h:so s=W c):hM (sD s) (aq 0)=W (bl (jX [c])):=by
 show(if(0:Int)<=0/\(0:Int).toNat<hH then((a0 s).cps.toList[0]?).map λc=>bl (jX [c])else N)=_
 rwa[aJ ⟨by decide,by decide⟩,show(a0 s).cps.toList[0]?=W c from h];rfl
theorem aey(c:Nat):(jX [c]=a0 "?")=(c=63):=by
 apply propext
 rwa[show a0 "?" =jX [63] by rfl]
 simp[jX]
section
variable{n:Nat}{σ:St}
theorem qL{ρ:Fm}(a:ρ[i]?=W (W (aw (sD s::l))))(h:so s=W c):ev tb cal (dR dh (cK (cK (ax i) (dI 0)) (dI 0)) (fP "?")) ρ σ=W (aM (I (c=63)),σ):=by
 show fb (cX (cX (aB a) cE (r:=sD s) rfl) cE (aex h)) kL ?_
 show(cG (bl (jX [c])) (bl (a0 "?"))).map aM=_
 rwa[FA,sL]
 show aI (λb=>W (aM b)) (decide_eq_decide.mpr (iff_of_eq (aey c)))
noncomputable def pB(a b:List String):List String:=b.filter λx=>I (x∉a)
noncomputable def Pt.kR:Pt->List String
 |.var x=>[x]
 |.c0 _=>[]
 |.c1 _ a=>a.kR
 |.c2 _ a b=>a.kR++pB a.kR b.kR
theorem aez(x:String)(l:List String):memD (sD x) (l.map sD)=W (I (x∈l)):=by
 induction l with
 |nil=>rfl
 |cons y r a=>
  unfold memD at a |-
  have h:((r.map sD).all λd=>(cG d (sD x)).isSome)=U:=by simp[sD,FA]
  rw[aJ h]at a
  rwa[aJ (by assumption)]
  simp only[tc]at a |-
  rwa[ea,Di,a]
  simp only[sD,FA,r0,qP,bB]
  by_cases q:x=y
  .simp [q]
  .have b:¬y=x:=λe=>q e.symm
   simp[q,b]
theorem aeA(a:List String):∀b:List String,(b.map sD).filterMap (λd=>if(∃x∈b,d=sD x/\x∉a)then W d else N)=(pB a b).map sD:=by
 intro b
 have:∀c:List String,(∀x∈c,x∈b)->(c.map sD).filterMap (λd=>if(∃x∈b,d=sD x/\x∉a)then W d else N)=(pB a c).map sD:=by
  intro c
  induction c with
  |nil=>intro z;rfl
  |cons y r g=>
   intro h
   have g:=g λx f=>h x (bq _ f)
   unfold pB at g |-
   rwa[ea,nz,zh,g]
   by_cases q:y∈a
   .rwa [aL,aL (by simp_all)]
    rintro⟨x,z,e,f⟩
    rw[BU.mp e]at q
    show f q
   .rwa [aJ ⟨y,h y (a7 ..),rfl,q⟩,aJ (dA ‹_›)];rfl
 show this b λx f=>f
end
section
variable{n:Nat}{σ:St}
theorem BW(h:D.bT l=U):iU σ (ay l) σ=W (ay l,σ):=by
 have:=HO (σ:=σ) (σ':=[]) h
 rwa[eM]at this
theorem Qa(l:List String):D.bT (l.map sD)=U:=sq λd b=>by
 show bR (b3.mp b) λx z a=>?_;clear b;obtain rfl:=a;rfl
theorem aeB{ρ:Fm}(f:ρ[1]?=W (W (ay (a.map sD))))(h:ρ[2]?=W (W t))(w:run n 649 [t] σ=W (ay (b.map sD),σ)):
 ev tb (run n) (eH Y [N,N,W 1] (bt 1) (dW (f6 649 (aS (ax 2) aT))) (aS (dR gY (ax 1) (ax 2)) aT) (ax 1)) ρ σ=W (ay ((pB a b).map sD),σ):=by
 have q:=Hj (cal:=run n) (σ:=σ) (mp:=[N,N,W 1]) (tg:= bt 1) (it:= dW (f6 649 (aS (ax 2) aT))) (ifs:= aS (dR gY (ax 1) (ax 2)) aT) (elt:= ax 1) (ρ:=ρ) (ds:=b.map sD)
  (g:=λd=>if(∃x∈b,d=sD x/\x∉a)then W d else N) (by
   show b6 (jr (bb (aB h)) w) rfl) λd i=>by
  show ct d (b3.mp i) λx j=>?_
  show⟨[N,W (sD x),W (ay (a.map sD))],aI (λz=>W [N,W (sD x),z]) (aI (λz=>z.bind id) f),I (x∉a),?_,?_,?_⟩
  .show Ho (fb (aB rfl) (aB rfl) ?_)
   show(memD (sD x) (a.map sD)).map (λr=>aM (!r))=_
   rwa[aez,sL]
   by_cases q:x∈a<;>simp
  .intro q
   rwa[aL]
   rintro⟨y,v,e,c⟩
   rw[<-BU.mp e]at c
   simp[c]at q
  .intro q
   show⟨sD x,aB rfl,aJ ⟨x,j,rfl,bS ‹_›⟩⟩
 rwa[q,aeA]
noncomputable def Qb:CS:= cZ (jJ (dH 1) (iV cV (ax 1) (eH Y [N,N,W 1] (bt 1) (dW (f6 649 (aS (ax 2) aT))) (aS (dR gY (ax 1) (ax 2)) aT) (ax 1)))) c7
theorem HX(w:run n 649 [t] σ=W (ay (b.map sD),σ))(d:a.length+b.length<=1000):
 ba tb (run n) Qb [W p,W (ay (a.map sD)),W t,o] σ=W (N,[W p,W (ay ((a++pB a b).map sD)),W t,o],σ):=by
 have c:=aeB (ρ:=[W p,W (ay (a.map sD)),W t,o]) rfl rfl w
 have e:(pB a b).length<=b.length:=vQ _ _
 unfold Qb
 show d8 (et (aB rfl) c (Bw ?_)) ?_
 .simp only [bN];lia
 .rwa [eI,gH];rfl
theorem Pt.BX(t:Pt):t.kR.length<=t.vars.length:=by
 induction t with
 |var _=>show bG _
 |c0 _=>show bG _
 |c1 _ a i=>show i
 |c2 _ a b i j=>show P (bC cF) (P (jB i (P (vQ _ _) j)) (bC cF.symm))
theorem Qc(l:List String):pB [] l=l:=by simp[pB]
theorem BY{P:Prop}(h:qH o=U)(k:∀c,so o=W c->I (c=63)=Y->P):P:=by
 delta qH at h
 generalize a:so o=q at h
 induction q with
 |none=>show ff h
 |some c=>show k c a (ef (bS h))
theorem Qd(t:Pt):∀(n:Nat)(σ:St),t.j8=U->t.vars.length<=1000->t.dep<=n->run n 649 [t.toD] σ=W (ay (t.kR.map sD),σ):=by
 induction t with
 |var x=>
  intro n σ e z g
  induction n using dS with
  |zero=>show aF g (lA _)
  |succ m=>
  show uT (ρ0:=[W (dE x).toD,N,N,N]) (r:=W (ay [sD x])) (ρ':=[W (dE x).toD,N,N,N]) (σ':=σ) (by rfl) rfl rfl rfl rfl ?_ (BW (by rfl))
  show ba tb (run m) oV _ σ=_
  unfold oV
  rwa[j2,(qL (cal:=run m) (σ:=σ) (i:=0) (ρ:=[W (dE x).toD,N,N,N]) rfl (bS e))]
  rfl
 |c0 o=>
  intro n σ e z g
  induction n using dS with
  |zero=>show aF g (lA _)
  |succ m=>
  show BY e λc j e=>?_
  have t:=qL (cal:=run m) (σ:=σ) (i:=0) (ρ:=[W (jt o).toD,N,N,N]) rfl j
  rw[e]at t
  show uT (ρ0:=[W (jt o).toD,N,N,N]) (r:=W (ay [])) (ρ':=[W (jt o).toD,W (ay []),N,N]) (σ':=σ) (by rfl) rfl rfl rfl rfl ?_ (BW (by rfl))
  show ba tb (run m) oV _ σ=_
  unfold oV
  rwa[j2,t]
  rfl
 |c1 o a i=>
  intro n σ e h g
  induction n using dS with
  |zero=>show aF g (lA _)
  |succ m=>
  have w:=i m σ (au e).2 h (lB g)
  show BY (au e).1 λc j e=>?_
  have t:=qL (cal:=run m) (σ:=σ) (i:=0) (ρ:=[W (ju o a).toD,N,N,N]) rfl j
  rw[e]at t
  have b:=HX (p:=(ju o a).toD) (o:=N) (a:=[]) w (P (bC (iK _)) (P a.BX h))
  rw[Qc,kz]at b
  show uT (ρ0:=[W (ju o a).toD,N,N,N]) (r:=W (ay (a.kR.map sD))) (ρ':=[W (ju o a).toD,W (ay (a.kR.map sD)),W a.toD,N]) (σ':=σ) (by rfl) rfl rfl rfl rfl ?_ (BW (Qa _))
  show ba tb (run m) oV _ σ=_
  unfold oV
  show de t (d8 (d:= ay []) (σ1:=σ) (n7 fK) ((kP (ds:=[a.toD]) (σ1:=σ) (ρ':=[W (ju o a).toD,W (ay (a.kR.map sD)),W a.toD,N]) (σ':=σ) (by rfl) ?_).trans ?_))
  .show iE b Hp
  .show di (aB rfl)
 |c2 o a f i k=>
  intro n σ e h g
  induction n using dS with
  |zero=>show aF g (lA _)
  |succ m=>
  have h:=P (bC (cF (as:=a.vars) (bs:=f.vars)).symm) h
  have g:=lB g
  have w:=i m σ (au (au e).1).2 (P (ew ..) h) (P (nr ..) g)
  have l:=k m σ (au e).2 (P (br ..) h) (P (nt ..) g)
  show BY (au (au e).1).1 λc j e=>?_
  have t:=qL (cal:=run m) (σ:=σ) (i:=0) (ρ:=[W (fc o a f).toD,N,N,N]) rfl j
  rw[e]at t
  have b:=HX (p:=(fc o a f).toD) (o:=N) (a:=[]) w (P (bC (iK _)) (P a.BX (P (ew ..) h)))
  rw[Qc,kz]at b
  show uT (ρ0:=[W (fc o a f).toD,N,N,N]) (r:=W (ay ((fc o a f).kR.map sD))) (ρ':=[W (fc o a f).toD,W (ay ((fc o a f).kR.map sD)),W f.toD,N]) (σ':=σ) (by rfl) rfl rfl rfl rfl ?_ (BW (Qa _))
  show ba tb (run m) oV _ σ=_
  unfold oV
  show de t (d8 (d:= ay []) (σ1:=σ) (n7 fK) ((kP (ds:=[a.toD,f.toD]) (σ1:=σ) (ρ':=[W (fc o a f).toD,W (ay ((fc o a f).kR.map sD)),W f.toD,N]) (σ':=σ) (by rfl) ?_).trans ?_))
  .show iE b (iE (HX (p:=(fc o a f).toD) (o:=N) (a:=a.kR) l (P (jB a.BX f.BX) h)) Hp)
  .show di (aB rfl)
end
noncomputable def fx:Option Nat->D
 |none=> cg
 |some v=>iD v
structure m3 (KD:List (D×D)) (cls:String->List Nat->Option Nat):Prop where
 keys:∀p∈KD,∃nd,p.1=a9 nd
 get:∀o ks,cw KD (a9 (o,ks))=(cls o ks).map iD
theorem Qe(v:Option Nat):(fx v).bF=U/\(fx v).kd=0:=by induction v<;>show⟨rfl,rfl⟩
theorem aeC(l:List (Option Nat)):D.bT (l.map fx)=U/\D.du (l.map fx)=0:=by
 induction l with
 |nil=>show⟨rfl,rfl⟩
 |cons a r b=>show⟨dN (Qe a).1 b.1,(aI (hA · _) (Qe a).2).trans ((ta _).trans b.2)⟩
theorem m3.ok(K:m3 a cls)(o:String)(l:List (Option Nat)):keyOk a (aw (sD o::l.map fx))=U:=by
 unfold keyOk
 have h:=aeC l
 simp only[eu,decide_eq_true_eq,bQ,bX]
 show⟨⟨And.left ‹_›,by show hA 0 (D.du _)+1<=7;rwa[h.2];show aQ rfl,dP _⟩,λp b=>?_⟩
 show dM (K.keys p b) λc e=>?_
 have:=qI c
 rwa[e,this.1,this.2]
 show⟨⟨rfl,dm _⟩,rfl⟩
noncomputable def sF:List (Option Nat)->Option (List Nat)
 |[]=>W []
 |none::_=>N
 |some a::r=>(sF r).map (a:: ·)
theorem Qf:∀{l:List (Option Nat)} {b:List Nat},sF l=W b->l.map fx=b.map iD
 |[],b,h=>by cases h;rfl
 |none::_,_,h=>by cases h
 |some a::r,b,h=>by
  show ct b (ej.mp h) λq c=>?_
  simp[Qf c,fx]
theorem Qg:∀{l:List (Option Nat)},sF l=N->cg∈l.map fx
 |[],h=>by cases h
 |none::_,_=>a7 ..
 |some a::r,h=>by
  have:=Qg (l:=r) (Option.map_eq_none_iff.mp h)
  show bq _ this
theorem m3.look(K:m3 b a)(o:String)(l:List (Option Nat)):(cw b (aw (sD o::l.map fx))).getD cg=fx ((sF l).bind (a o)):=by
 generalize h:sF l=c;induction c with
 |some d=>
  rwa[Qf h,show aw (sD o::d.map iD)=a9 (o,d)from rfl,K.get]
  show _=fx (a o d)
  cases a o d<;>rfl
 |none=>
  have f:=Qg h
  unfold cw
  generalize q:cW b (aw (sD o::l.map fx))=c;induction c with
  |none=>rfl
  |some i=>
   obtain⟨v,g⟩:=kF q
   obtain⟨j,e⟩:=K.keys _ (cN g)
   simp only[a9,D.tup.injEq,oE]at e
   rw[e.2]at f
   show fW (f) λk z m=>?_
   contradiction
section
variable{n s:Nat}{σ:St}{T:D}{KD:List (D×D)}{cls:String->List Nat->Option Nat}
theorem aeD{a:List D}(h:∀d∈a,run n 654 [ak s,d,T] σ=W (g d,σ)):
 ev tb (run n) (eH Y [N,N,N,W 0,W 2] (bt 1) (dW (mL (ax 1) (dI 1))) aT (f6 654 (aS (ax 3) (aS (ax 1) (aS (ax 4) aT))))) [W (ak s),W (aw (x::a)),W T,N] σ=W (ay (a.map g),σ):=by
 show jq (ds:=a) (b6 (qB (aB rfl) cE qD) rfl) λd b=>⟨[N,W d,N,W (ak s),W T],rfl,jr (b8 (aB rfl) (b8 (aB rfl) (bb (aB rfl)))) (h d b)⟩
theorem HY(f:σ[s]?=W (a8 KD))(K:m3 KD cls){ks:List D}(a:qH o=U)(h:∀d∈ks,run n 654 [ak s,d,T] σ=W (g d,σ))(j:ks.map g=l.map fx)(m:ks.length<=10):
 run (n+1) 654 [ak s,aw (sD o::ks),T] σ=W (fx ((sF l).bind (cls o)),σ):=by
 have c:=aeD (x:=sD o) h
 rw[j]at c
 have k:l.length=ks.length:=by have:=aI tj j;simpa using this.symm
 unfold qH at a
 generalize b:so o=e;induction e with
 |none=>rw[b]at a;cases a
 |some v=>
  rw[b]at a
  have t:=qL (cal:=run n) (σ:=σ) (i:=1) (ρ:=[W (ak s),W (aw (sD o::ks)),W T,N]) rfl b
  rw[ef (bS a)]at t
  show dw (r:=W (fx ((sF l).bind (cls o)))) (ρ':=[W (ak s),W (aw (sD o::ks)),W T,N]) (by rfl) rfl rfl rfl rfl rfl ?_
  show ba tb (run n) E9 [W (ak s),W (aw (sD o::ks)),W T,N] σ=_
  unfold E9
  show de t (di (gz (aB rfl) (![lZ f]) (bb (et (eD (bb (cX (aB rfl) cE rfl))) (d4 c rfl) (r:= aw (sD o::l.map fx)) ?_)) ?_))
  .show px (by simp only[bN,fC,mr,k];lia)
  .rwa [ac1 (lZ f) (K.ok o l),K.look]
theorem aeE(u:σ[s]?=W (a8 KD))(K:m3 KD cls)(c:List (String×Nat))(t:Pt):∀(n:Nat),t.j8=U->t.dep<=n->(∀x∈t.vars,(c.lookup x).isSome=U)->run n 654 [ak s,t.toD,eR c] σ=W (fx (cM cls (λx=>c.lookup x) t),σ):=by
 induction t with
 |var x=>
  intro n f k p
  obtain⟨m,rfl⟩:∃m,n=m+1:=vH k
  have f:=bS f
  show dM (fF.mp (p x (a7 ..))) λv p=>?_
  show dw (r:=W (iD v)) (ρ':=[W (ak s),W (dE x).toD,W (eR c),N]) (by rfl) rfl rfl rfl rfl (by show iD v=fx (c.lookup x);rwa[p];rfl) ?_
  show mX (qL (cal:=run m) (σ:=σ) (i:=1) (ρ:=[W (ak s),W (dE x).toD,W (eR c),N]) rfl f) (di (cX (aB rfl) (cX (aB rfl) cE (r:=sD x) rfl) ?_))
  show pv (BV x c) (![u5,p])
 |c0 o=>
  intro n f k p
  obtain⟨m,rfl⟩:∃m,n=m+1:=vH (P (br 1 _) k)
  show HY (ks:=[]) (l:=[]) (g:=id) u K f (λZ h=>aF h bc) rfl (cQ _)
 |c1 o a i=>
  intro n f k p
  obtain⟨m,rfl⟩:∃m,n=m+1:=vH (P (br 1 _) k)
  have f:=au f
  have w:=i m f.2 (iL ‹_›) p
  have b:=HY (n:=m) (o:=o) (ks:=[a.toD]) (l:=[cM cls (λx=>c.lookup x) a]) (g:=λZ=>fx (cM cls (λx=>c.lookup x) a)) u K f.1 (λd k=>by rwa[bI.mp k];show w) rfl (dm _)
  show b.trans ?_
  show _=W (fx ((cM cls (λx=>c.lookup x) a).bind λx=>cls o [x]),σ)
  cases cM cls (λx=>c.lookup x) a<;>rfl
 |c2 o a b i j=>
  intro n f k p
  obtain⟨m,rfl⟩:∃m,n=m+1:=vH (P (br 1 _) k)
  have f:(_/\_)/\_:=⟨au (au f).1,(au f).2⟩
  have w:=i m f.1.2 (P (nr ..) (lB k)) λx z=>p x (dT _ z)
  have A:=j m f.2 (P (nt ..) (lB k)) λx z=>p x (fG _ z)
  have q:=HY (n:=m) (o:=o) (ks:=[a.toD,b.toD]) (l:=[cM cls (λx=>c.lookup x) a,cM cls (λx=>c.lookup x) b]) (g:=λd=>if d=a.toD then fx (cM cls (λx=>c.lookup x) a)else fx (cM cls (λx=>c.lookup x) b)) u K f.1.1 (λd k=>by
   by_cases e:d=a.toD
   .rwa [aJ e,e];show w
   .rwa [aL e]
    have:d=b.toD:=by simp[e]at k;show k
    rwa[this];show A) (by
   by_cases e:b.toD=a.toD
   .have:W (fx (cM cls (λx=>c.lookup x) b),σ)=W (fx (cM cls (λx=>c.lookup x) a),σ):=by rwa[<-w,<-A,e]
    simp only[tc,vV,and_true]at this
    simp[e,this]
   .simp [e]) (br ..)
  show q.trans ?_
  show _=W (fx ((cM cls (λx=>c.lookup x) a).bind λx=>(cM cls (λx=>c.lookup x) b).bind λy=>cls o [x,y]),σ)
  cases cM cls (λx=>c.lookup x) a<;>cases cM cls (λx=>c.lookup x) b<;>rfl
end
noncomputable def stepT(cs:List Nat)(ts:List (List (String×Nat)))(x:String):List (List (String×Nat)):=ts.flatMap λt=>cs.map λc=>t++[(x,c)]
theorem BZ{cs:List Nat}{t:List (String×Nat)}{e:List String}:∀{f:List (List (String×Nat))},t∈e.foldl (stepT cs) f↔∃a∈f,∃u,t=a++u/\u.map (·.1)=e/\∀p∈u,p.2∈cs:=by
 induction e with
 |nil=>
  intro f
  simp only[List.foldl_nil,Dr]
  constructor
  .intro h;show⟨t,h,[],by simp,rfl,λz h=>aF h bc⟩
  .rintro ⟨a,h,u,rfl,rfl,z⟩;simpa using h
 |cons x e g=>
  intro f
  rwa[pR,g]
  unfold stepT
  simp only[pQ,b3]
  constructor
  .rintro ⟨a,⟨i,j,c,k,rfl⟩,u,rfl,b,d⟩
   show⟨i,j,(x,c)::u,iM ..,by simp[b],?_⟩
   simp only[zg]
   show⟨k,d⟩
  .rintro ⟨a,h,u,rfl,b,d⟩
   induction u using bH with
   |nil=>trivial
   |cons p u=>
    simp only[ea,oE]at b
    simp only[zg]at d
    show⟨a++[p],⟨a,h,p.2,d.1,![<-b.1]⟩,u,by simp,b.2,d.2⟩
theorem aeF(g:d.Nodup)(x:String)(h:ts.Nodup):(stepT d ts x).Nodup:=by
 unfold stepT List.Nodup
 rwa[Jx]
 show⟨λt w=>?_,?_⟩
 .show Kl _ (λa b f e=>f (by simpa using(Jy e rfl).2)) g
 .show Km (λ{a b} f y i z j=>?_) h
  show ct y (b3.mp i) λc w=>?_
  show jg (j) λk w=>?_
  showλe=>f (Jy e rfl).1
theorem HZ(b:a.Nodup):∀{ns:List String} {ts:List (List (String×Nat))},ts.Nodup->(ns.foldl (stepT a) ts).Nodup
 |[],_,h=>h
 |x::ns,ts,h=>HZ b (ns:=ns) (aeF b (ts:=ts) x h)
theorem B0(cs:List Nat)(x:String):∀a:List (List (String×Nat)),(stepT cs a x).length=a.length*cs.length
 |[]=>by simp[stepT]
 |t::r=>by
  have:=B0 cs x r
  unfold stepT at this |-
  rwa[vR,cF,this,bN,fC,y2];show ky ..
theorem aeG{x:String}:∀{t:List (String×Nat)},x∉t.map (·.1)->cW (t.map λp=>(sD p.1,iD p.2)) (sD x)=N:=λ{t} h=>by
 generalize q:cW (t.map λp=>(sD p.1,iD p.2)) (sD x)=a;induction a with
 |none=>rfl
 |some i=>
  obtain⟨v,b⟩:=kF q
  show fW ((cN b)) λp c e=>?_
  simp only[vV,BU]at e
  show aF (b3.mpr ⟨p,c,e.1⟩) h
theorem Qh{r:List (String×Nat)}:∀{a:List (String×Nat)},((a++r).map (·.1)).Nodup->(r.map λp=>(sD p.1,iD p.2)).foldl (λb p=>b.bind λa=>if keyOk a p.1 then W (cp a p.1 p.2)else N) (W (a.map λp=>(sD p.1,iD p.2)))=W ((a++r).map λp=>(sD p.1,iD p.2)):=by
 induction r with
 |nil=>intro a z;simp
 |cons p r c=>
  intro a h
  have d:p.1∉a.map (·.1):=by
   rw[gH,ea,oq]at h
   intro u
   show h.2.2 _ u _ (a7 ..) rfl
  have c:=c (a:=a++[p]) (by rwa[iM];show h)
  rwa[ea,pR,c5,aJ (BV p.1 a)]
  rwa[show cp (a.map λp=>(sD p.1,iD p.2)) (sD p.1) (iD p.2)=(a++[p]).map λp=>(sD p.1,iD p.2) by unfold cp;rwa[aeG d];simp]
  rwa[c,iM];rfl
theorem H0:∀t:List (String×Nat),mF (t.map λp=> aw [sD p.1,iD p.2])=W (t.map λp=>(sD p.1,iD p.2))
 |[]=>rfl
 |p::r=>by show(mF (r.map λp=>aw [sD p.1,iD p.2])).map _=_;rwa[H0 r];rfl
theorem aeH{b:St}{t:List (String×Nat)}(h:(t.map (·.1)).Nodup)(c:t.length<=1000):eY oS b (ay (t.map λp=> aw [sD p.1,iD p.2]))=W (eR t):=by
 show(if(t.map λp=>aw [sD p.1,iD p.2]).length<=1000 then((mF (t.map λp=>aw [sD p.1,iD p.2])).bind nL).map dG else N)=_
 rwa[bN,aJ c,H0,c5]
 unfold nL
 rwa[show(W []:Option (List (D×D)))=W (([]:List (String×Nat)).map λp=>(sD p.1,iD p.2))from rfl,Qh (a:=[]) (by assumption)]
 rfl
theorem aeI{b:St}{t:List (String×Nat)}(h:(t.map (·.1)).Nodup)(c:t.length<=1000):eY oS b (aw (t.map λp=> aw [sD p.1,iD p.2]))=W (eR t):=by
 show(if(t.map λp=>aw [sD p.1,iD p.2]).length<=1000 then((mF (t.map λp=>aw [sD p.1,iD p.2])).bind nL).map dG else N)=_
 rwa[bN,aJ c,H0,c5]
 unfold nL
 rwa[show(W []:Option (List (D×D)))=W (([]:List (String×Nat)).map λp=>(sD p.1,iD p.2))from rfl,Qh (a:=[]) (by assumption)]
 rfl
section
variable{n s:Nat}{σ:St}{cs:List Nat}
noncomputable def B1:X:= t7 [N,N,N,N,N,W 0,W 6] (bt 1) (dW (ax 4)) (bt 2) (dW (ax 5)) (fa oS (iV cV (fa .listItems (ax 1)) (mK Y (aS (e0 (aS (ax 6) (aS (ax 2) aT))) aT))))
theorem aeJ{cal:mH}{ρ:Fm}{g:List (List (String×Nat))}{x:String}{h:List String}(q:ρ[0]?=W (W (ay (cs.map iD))))(u:ρ[4]?=W (W (ay (g.map eR))))(v:ρ[6]?=W (W (sD x)))
(k:∀t∈g,t.map (·.1)=h)(w:x∉h)(y:h.Nodup)(B:h.length<=10)(Q:g.length*cs.length<=10000):ev tb cal B1 ρ σ=aa (ay ((stepT cs g x).map eR),σ):=by
 have i:((g.map eR).flatMap λd=>cs.map λc=>dG ((qi d).getD []++[(sD x,iD c)]))=(stepT cs g x).map eR:=by
  unfold stepT
  rwa[Ju,List.map_flatMap]
  congr 1
  funext t
  rwa[dK]
  show fN λc s=>aI dG (gH (f:=λp:String×Nat=>(sD p.1,iD p.2)) (l₁:=t) (l₂:=[(x,c)])).symm
 rwa[<-i]
 unfold B1
 show acV (b6 (aB u) rfl) (λd z=>?_) ?_
 .show ct d (b3.mp z) λt l=>?_
  show⟨[ae,aa (eR t),ae,ae,ae,aa (ay (cs.map iD)),aa (sD x)],cs.map iD,λe=>eR (t++[(x,((oO e).getD 0).toNat)]),by show aa [ae,aa (eR t),ae,ae,ae,(ρ[0]?).bind id,(ρ[6]?).bind id]=_;rwa[q,v];rfl,b6 (aB rfl) rfl,?_,λe A=>?_⟩
  .rwa [dK]
   show fN λc s=>aI dG (gH (f:=λp:String×Nat=>(sD p.1,iD p.2)) (l₁:=t) (l₂:=[(x,c)])).symm
  .show ct e (b3.mp A) λc s=>?_
   have j:t.length=h.length:=![<-k t l,bN]
   show⟨_,rfl,d4 (et (d4 (aB rfl) (r:= ay (t.map λp=> aw [sD p.1,iD p.2])) ?_) (n7 (bb (eD (b8 (aB rfl) (bb (aB rfl)))))) (r:= ay ((t++[(x,c)]).map λp=> aw [sD p.1,iD p.2])) ?_) ?_⟩
   .show aa (ay ((t.map λp=>(sD p.1,iD p.2)).map λp=> aw [p.1,p.2]))=_
    rwa[dK];rfl
   .rwa [gH]
    show Bw (by simp only[bN,fC,mr,j];show bY ‹_› (br ..))
   .show eY oS _ _=aa (eR (t++[(x,c)]))
    show aeH ?_ (by simp only[cF,fC,mr,j];show bY ‹_› (br ..))
    rwa[gH,k t l,oq]
    show⟨y,by simp,λa m b o e=>by simp at o;rw[e,o]at m;show w m⟩
 .rwa [i,bN,B0]
  show _<=1048576;show aC ‹_› (br ..)
theorem aeK{t nm:D}{fd:D}{o7 o8:Option D}(b:List String):∀(f:List String) (a:List (List (String×Nat))) (o6:Option D),(∀t∈a,t.map (·.1)=f)->(f++b).Nodup->(f++b).length<=3->cs.length<=6->a.length*6^b.length<=216 ->
 ∃e,loopGo (λd ρ σ=>(dY (bt 6) d ρ).bind λρ=>ba tb (run n) (cZ (jJ (dH 4) B1) c7) ρ σ) (b.map sD) [W (ay (cs.map iD)),W (ak s),W t,W nm,W (ay (a.map eR)),W fd,o6,o7,o8,N,N,N,N] σ =
  W (N,[W (ay (cs.map iD)),W (ak s),W t,W nm,W (ay ((b.foldl (stepT cs) a).map eR)),W fd,e,o7,o8,N,N,N,N],σ):=by
 induction b with
 |nil=>showλZ Z o6 Z Z Z Z Z=>⟨o6,rfl⟩
 |cons x b l=>
  intro f a o6 r j w v m
  have o:=j
  rw[oq,i9]at j
  simp only[cF,fC]at w
  rw[fC,s9]at m
  have y:1<=6^b.length:=Nat.pow_pos (dm _)
  have g:a.length*cs.length<=a.length*6:=kr _ v
  have p:a.length*6*1<=a.length*6*6^b.length:=kr _ y
  have i:a.length*6*6^b.length=a.length*(6^b.length*6):=![C7,C8 6]
  have q:a.length*cs.length*6^b.length<=a.length*6*6^b.length:=C6 _ g
  have c:=aeJ (cal:=run n) (σ:=σ) (ρ:=[W (ay (cs.map iD)),W (ak s),W t,W nm,W (ay (a.map eR)),W fd,W (sD x),o7,o8,N,N,N,N]) (x:=x) rfl rfl rfl r (λh=>j.2.2 _ h _ (a7 ..) rfl) j.1 (by lia) (P g (P (bC (Nat.mul_one _).symm) (P p (P (bC i) (P m (aQ rfl))))))
  show(l (f++[x]) (stepT cs a x) (W (sD x)) (λu k=>by
   unfold stepT at k
   show aV (pQ.mp k) λz A k=>?_
   show ct u (b3.mp k) λc Z=>?_
   rwa[gH,r z A];rfl) (by rwa[iM];show o) (by simp;assumption) v (by rwa[B0];show P q (P (bC i) m))).elim λe l=>⟨e,iE (d8 c eI) l⟩
end
def gi(a:String->List Nat->Option Nat)(b:Pt)(t:List (String×Nat)):Option Ky:=(cM a (λx=>t.lookup x) b).map λc=>(c,t)
section
variable{n s:Nat}{σ:St}{KD:List (D×D)}{cls:String->List Nat->Option Nat}{nm:List String}
noncomputable def B2:CS:=(cZ (jJ (dH 8) (f6 654 (aS (ax 1) (aS (ax 2) (aS (ax 7) aT))))) (cZ (k7 (dR .IsNot (ax 8) .none) (cZ (.ex (gL iC (ax 5) (aS (e0 (aS (ax 8) (aS (fa gM (eH Y [N,N,W 7] (bt 1) (dW (ax 3)) aT (e0 (aS (ax 1) (aS (cK (ax 2) (ax 1)) aT))))) aT))) aT))) c7) c7) c7))
theorem aeL{cal:mH}{ρ:Fm}{t:List (String×Nat)}(f:ρ[3]?=W (W (ay ((t.map (·.1)).map sD))))(h:ρ[7]?=W (W (eR t)))(b:(t.map (·.1)).Nodup):
 ev tb cal (eH Y [N,N,W 7] (bt 1) (dW (ax 3)) aT (e0 (aS (ax 1) (aS (cK (ax 2) (ax 1)) aT)))) ρ σ=W (ay (t.map λp=> aw [sD p.1,iD p.2]),σ):=by
 have q:=jq (cal:=cal) (σ:=σ) (mp:=[N,N,W 7]) (tg:= bt 1) (it:= dW (ax 3)) (elt:= e0 (aS (ax 1) (aS (cK (ax 2) (ax 1)) aT))) (ρ:=ρ) (ds:=(t.map (·.1)).map sD)
  (g:=λd=> aw [d,(cw (t.map λp=>(sD p.1,iD p.2)) d).getD cg]) (b6 (aB f) rfl) λd c=>by
  show ct d (b3.mp c) λx i=>?_
  clear c;show ct x (b3.mp i) λp a=>?_
  have e:=lookup_mem b (show(p.1,p.2)∈t from a)
  show⟨[N,W (sD p.1),W (eR t)],aI (λo:Option (Option D)=>W [N,W (sD p.1),o.bind id]) h,eD (b8 (aB rfl) (bb (cX (aB rfl) (aB rfl) ?_)))⟩
  rwa[u5,e]
  show pv (BV p.1 t) (![u5,e])
 rwa[q,dK,dK]
 show aI W (iQ (aI ay (fN λp a=>?_)) rfl)
 simp only[oH,u5,lookup_mem b (show(p.1,p.2)∈t from a),sL,qP]
theorem aeM(f:σ[s]?=W (a8 KD))(K:m3 KD cls){a:Pt}(i:a.j8=U)(j:a.dep<=n){t:List (String×Nat)}(k:∀x∈a.vars,x∈t.map (·.1))(g:(t.map (·.1)).Nodup){F:List D}(o:F.length<1000){cl tbs:D}{o6 o8:Option D}:
 ∃b,ba tb (run n) B2 [W cl,W (ak s),W a.toD,W (ay ((t.map (·.1)).map sD)),W tbs,W (ak σ.length),o6,W (eR t),o8,N,N,N,N] (σ++[aO F]) =
  W (N,[W cl,W (ak s),W a.toD,W (ay ((t.map (·.1)).map sD)),W tbs,W (ak σ.length),o6,W (eR t),b,N,N,N,N],σ++[aO (F++(gi cls a t).toList.map kD)]):=by
 have d:(σ++[aO F])[s]?=W (a8 KD):=by rwa[fB (cD.mp f).1];show f
 have w:=aeE d K t a n i j λx l=>by
  show ct x (b3.mp (k x l)) λp m=>?_
  rwa[lookup_mem g (show(p.1,p.2)∈t from m)];rfl
 show⟨W (fx (cM cls (λx=>t.lookup x) a)),?_⟩
 unfold B2 gi
 show d8 (jr (b8 (aB rfl) (b8 (aB rfl) (bb (aB rfl)))) w) ?_
 generalize q:cM cls (λx=>t.lookup x) a=e;induction e with
 |none=>
  show de (fb (aB rfl) FC (r:= aM Y) rfl) ?_
  rwa[eI]
  simp
 |some c=>
  have h:(σ++[aO F])[σ.length]?=W (aO F):=by simp
  show Bt (fb (aB rfl) FC (r:= aM U) rfl) (gA (gz (aB rfl) (![d7 h]) (bb (eD (b8 (aB rfl) (bb (d4 (aeL rfl rfl g) rfl))))) (r:= cg) (σ3:=σ++[aO (F++[kD (c,t)])]) ?_) eI) ?_
  .rwa [mY h (bg ‹_› (br ..))]
   simp[Dy,kD,fx]
  .rwa [eI];rfl
theorem aeN(q:σ[s]?=W (a8 KD))(a:m3 KD cls){c:Pt}(r:c.j8=U)(v:c.dep<=n)(w:∀x∈c.vars,x∈nm)(y:nm.Nodup){cl tbs:D}{o6:Option D}(h:List (List (String×Nat))):∀(F:List D)(j o8:Option D),(∀t∈h,t.map (·.1)=nm)->F.length+h.length<1000 ->
 ∃f g,loopGo (λd k σ=>(dY (bt 7) d k).bind λk=>ba tb (run n) B2 k σ) (h.map eR) [W cl,W (ak s),W c.toD,W (ay (nm.map sD)),W tbs,W (ak σ.length),o6,j,o8,N,N,N,N] (σ++[aO F]) =
  W (N,[W cl,W (ak s),W c.toD,W (ay (nm.map sD)),W tbs,W (ak σ.length),o6,f,g,N,N,N,N],σ++[aO (F++(h.filterMap (gi cls c)).map kD)]):=by
 induction h with
 |nil=>showλF j o8 Z Z=>⟨j,o8,![show F++List.map kD (Ji (gi cls c) [])=F from eM F]⟩
 |cons t h l=>
  intro F j o8 o p
  have e:=o t (a7 ..)
  simp only[fC]at p
  have i:((gi cls c t).toList.map kD).length<=1:=by cases gi cls c t<;>(first|show dm _|show cQ _|simp)
  obtain⟨m,b⟩:=aeM (σ:=σ) (F:=F) (cl:=cl) (tbs:=tbs) (o6:=o6) (o8:=o8) q a r v (t:=t) (λx z=>by rwa[e];show w x z) (by rwa[e];show y) (bY (ew ..) ‹_›)
  rw[e]at b
  show p9 (l (F++(gi cls c t).toList.map kD) (W (eR t)) m (λu A=>o u (bq _ A)) (by rwa[cF];show bY (P (kS (fh i _) _) (bC (kT ..))) p)) λf g l=>?_
  show⟨f,g,?_⟩
  rwa[ea]
  show iE b (l.trans ?_)
  rwa[nz]
  cases gi cls c t<;>simp
theorem aeO(hs:σ[s]?=W (a8 KD))(K:m3 KD cls){cs:List Nat}{v:List Row}{ps:List Pt}{l:List (String×Nat)}{w:List D}{f:Pt}(L:uZ f.toD f v ps l w)(P:f.j8=af)(o:f.dep<=n)(U:f.dep<=38)(hv:f.vars.length<=1000)(hc:cs.length<=6)(V:cs.Nodup)
(y:((((l.map (·.1)).foldl (stepT cs) [[]]).filterMap (gi cls f)).length<64)):
 run (n+1) 659 [ay (cs.map iD),ak s,f.toD] σ=aa (ay (gK ((((l.map (·.1)).foldl (stepT cs) [[]]).filterMap (gi cls f)).map kD)),σ):=by
 have z:=L.size
 simp only[BE,eu,decide_eq_true_eq]at z
 have A:(l.map (·.1)).length<=3:=by rwa[bN];show z.1.1.2
 have W:w=f.kR.map sD:=by
  have:=L.names.symm.trans (Qd f 38 [] P hv U)
  simpa using this
 have g:=L.sort
 rw[W,show(l.map λp=>sD p.1)=(l.map (·.1)).map sD by rwa[dK];rfl]at g
 have B:∀x∈f.vars,x∈l.map (·.1):=λx hx=>(L.vars x).mp hx
 have Q:=L.ok.nd
 generalize l.map (·.1)=nm at g B Q A y |-
 have j:∀t∈nm.foldl (stepT cs) [[]],t.map (·.1)=nm:=λt Y=>by
  obtain⟨t0,h0,u,rfl,Z,X⟩:=BZ.mp Y
  rwa[bI.mp h0];show Z
 have H:∀(N:List String) (i:List (List (String×Nat))),i.length*6^N.length<=216->(N.foldl (stepT cs) i).length<=216:=by
  intro N
  induction N with
  |nil=>intro i h;show aC (br ..) ‹_›
  |cons x r ih=>
   intro i h
   show ih _ ?_
   rwa[B0]
   rw[fC,s9]at h
   have h1:i.length*cs.length<=i.length*6:=kr _ hc
   have Z:i.length*cs.length*6^r.length<=i.length*6*6^r.length:=C6 _ h1
   have h3:i.length*6*6^r.length=i.length*(6^r.length*6):=![C7,C8 6]
   show aC Z (aC (bC h3) h)
 have I:6^nm.length<=6^3:=pL (dm _) A
 have hT:=H nm [[]] (kr _ ‹_›)
 obtain⟨o6,L1⟩:=aeK (n:=n) (s:=s) (σ:=σ++[aO []]) (cs:=cs) (t:=f.toD) (nm:= ay (nm.map sD)) (fd:= ak σ.length) (o7:=ae) (o8:=ae) nm [] [[]] ae (aQ rfl) (by assumption) (by assumption) hc (by simpa using I)
 show p9 (aeN (n:=n) hs K P o B Q (cl:= ay (cs.map iD)) (tbs:= ay ((nm.foldl (stepT cs) [[]]).map eR)) (o6:=o6) (nm.foldl (stepT cs) [[]]) [] ae ae j (by simp;show bY ‹_› (br ..))) λo7 o8 L2=>?_
 rw[kz]at L2
 have hKP:∀d∈((nm.foldl (stepT cs) [[]]).filterMap (gi cls f)).map kD,KP nm d:=λd o=>by
  show jg (o) λk hk=>?_
  show aV (y9.mp hk) λt Y e=>?_
  clear hk;show ct k (ej.mp e) λc X=>?_
  show⟨_,rfl,j t Y⟩
 have J:(((nm.foldl (stepT cs) [[]]).filterMap (gi cls f)).map kD).Nodup:=by
  show Kl (R:=(· ≠ ·)) _ (λa b u e=>u (BQ e)) (Ko (R:=(· ≠ ·)) (S:=(· ≠ ·)) _ (λa a' u b y b' M e=>?_) (HZ V (aQ rfl)))
  show bR (ej.mp y) λc X m=>?_;clear y;obtain rfl:=m
  show bR (ej.mp M) λc' X m=>?_;clear M;obtain rfl:=m
  show u (cO e).2
 have Hi:=P9 hKP J (by rwa[bN];show y)
 have hKL:D.bT (gK (((nm.foldl (stepT cs) [[]]).filterMap (gi cls f)).map kD))=af:=sq λd o=>by
  show ct d (b3.mp ((j0 _).mem_iff.mp o)) λq hq=>?_
  show(qJ q).1
 show uT (ρ0:=[aa (ay (cs.map iD)),aa (ak s),aa f.toD,ae,ae,ae,ae,ae,ae,ae,ae,ae,ae]) (r:=aa (ay (gK (((nm.foldl (stepT cs) [[]]).filterMap (gi cls f)).map kD)))) (ρ':=[aa (ay (cs.map iD)),aa (ak s),aa f.toD,aa (ay (nm.map sD)),aa (ay ((nm.foldl (stepT cs) [[]]).map eR)),aa (ak σ.length),o6,o7,o8,ae,ae,ae,ae])
  (σ':=σ++[aO (((nm.foldl (stepT cs) [[]]).filterMap (gi cls f)).map kD)]) (by rfl) rfl rfl rfl rfl ?_ (HO hKL)
 show ba tb (run n) Fb [aa (ay (cs.map iD)),aa (ak s),aa f.toD,ae,ae,ae,ae,ae,ae,ae,ae,ae,ae] σ=_
 unfold Fb
 show fw (eD (b8 (d4 (jr (bb (aB rfl)) (Qd f n σ P hv o)) (r:= ay (nm.map sD)) (Bu rfl g)) (b8 (n7 (bb acQ)) (bb (Bq fK))))) rfl ?_
 show(kP (b:= cZ (jJ (dH 4) B1) c7) (b6 (aB rfl) rfl) L1).trans ?_
 show(kP (b:=B2) (b6 (aB rfl) rfl) L2).trans ?_
 have g0:(σ++[aO (((nm.foldl (stepT cs) [[]]).filterMap (gi cls f)).map kD)])[σ.length]?=aa (aO (((nm.foldl (stepT cs) [[]]).filterMap (gi cls f)).map kD)):=by simp
 show di (d4 (aB rfl) (Bu (d7 g0) Hi))
end
structure NC (nodes:Nat->List (String×List Nat)) (cls:String->List Nat->Option Nat) (cs:List Nat):Prop where
 hc:∀c o ks,(o,ks)∈nodes c↔cls o ks=aa c
 u6:∀o ks c,cls o ks=aa c->c∈cs/\∀k∈ks,k∈cs
 H2:∀(o:String)(m:Nat),((cs.flatMap nodes).filter λn=>n.1==o&&n.2.length==m).length<=3
section
variable{nodes:Nat->List (String×List Nat)}{cls:String->List Nat->Option Nat}{cs:List Nat}
theorem Qi{f:c->List d}{l:List c}:(∀x∈l,(f x).length<=b)->(l.flatMap f).length<=l.length*b:=by
 induction l with
 |nil=>showλz=>cQ _
 |cons a r e=>
  intro h
  rwa[vR,cF,fC,y2]
  show P (jB (h a a7) (e λx g=>h x (bq _ g))) (bC (ky ..))
theorem NC.aeP(N:NC nodes cls cs)(c:Nat)(o:String)(m:Nat):((nodes c).filter λn=>n.1==o&&n.2.length==m).length<=3:=by
 by_cases h:c∈cs
 .show p9 (IV h) λs t e=>?_
  have:=N.H2 o m
  rw[e,List.flatMap_append,vR,zk,zk,cF,cF]at this
  show P (P (ew ..) (br ..)) this
 .have:nodes c=[]:=List.eq_nil_iff_forall_not_mem.mpr λx a=>h (N.u6 x.1 x.2 c ((N.hc c x.1 x.2).mp a)).1
  rwa[this];show cQ _
theorem aeQ(N:NC nodes cls cs)(b:List Row):∀r:List Nat,(solve nodes b r).length<=3^l6 b:=by
 induction b with
 |nil=>showλz=>gW _
 |cons a b c=>
  induction a with
  |hX l=>showλz=>(Nat.pow_pos (dm _):0<3^l6 b)
  |same p q=>
   intro r
   show(if r.getD p 0=r.getD q 0 then solve nodes b r else[]).length<=3^l6 b
   by_cases e:r.getD p 0=r.getD q 0
   .rwa [aJ e];show c r
   .rwa [aL e];show cQ _
  |bind p o m f=>
   intro r
   show P (Qi λx z=>c _) ?_
   show _<=3^(1+l6 b)
   rwa[ky,s9,C8]
   show kr _ (N.aeP _ _ _)
theorem aeR(h:HL a=U):∃o m f b,a= sk 0 o m f::b:=by
 induction a using bH with
 |nil=>show ff h
 |cons r b=>
  induction r with
  |bind p o m f=>
   induction p using dS with
   |zero=>show⟨o,m,f,b,rfl⟩
   |succ p=>show ff h
  |same=>show ff h
  |hX=>show ff h
theorem Qj(N:NC nodes cls cs)(g:HL b=U)(e:l6 b<=3):(cs.flatMap λc=>solve nodes b [c]).length<64:=by
 revert e;show RC b (aeR g) λo m f d e=>?_
 .have h:∀l:List Nat,(l.flatMap λc=>solve nodes (sk 0 o m f::d) [c]).length<=((l.flatMap nodes).filter λn=>n.1==o&&n.2.length==m).length*3^l6 d:=by
   intro l
   induction l with
   |nil=>show cQ _
   |cons a r i=>
    rwa[vR,vR,zk,cF,cF,Nat.add_mul]
    show jB ?_ i
    show Qi λx z=>aeQ N d _
  have e:1+l6 d<=3:=e
  have j:3^l6 d<=3^2:=pL (dm _) (C0 (show 1+l6 d<=1+2 from e))
  show bY (h cs) (bY (IT (N.H2 o m) j) (aQ rfl))
theorem Qk{a:String->Option Nat}:∀{l:List (String×Nat)} {x:String},x∈l.map (·.1)->(l.map λp=>(p.1,(a p.1).getD 0)).lookup x=W ((a x).getD 0)
 |[],x,h=>by show aJ ‹_›
 |p::r,x,h=>by
  rwa[ea,pM]
  by_cases q:x=p.1
  .simp [q]
  .rwa [beq_false_of_ne q]
   show Qk ?_
   rw[ea,bB]at h
   show h.resolve_left q
theorem aeS{t l:List (String×Nat)}(e:t.map (·.1)=l.map (·.1))(a:(t.map (·.1)).Nodup):(l.map λp=>(p.1,(t.lookup p.1).getD 0))=t:=by
 have:(l.map λp=>(p.1,(t.lookup p.1).getD 0))=(l.map (·.1)).map λx=>(x,(t.lookup x).getD 0):=![dK]
 rwa[this,<-e,dK]
 have b:∀p∈t,((λx=>(x,(t.lookup x).getD 0))∘λp:String×Nat=>p.1) p=p:=λp c=>by
  simp only[oH,lookup_mem a (show(p.1,p.2)∈t from c),qP]
 rwa[fN b,Dz]
theorem aeT(N:NC nodes cls cs){g:List Nat}(z:∀x,x∈g↔x∈cs){left:D}{n:Pt}{d:List Row}{M:List Pt}{l:List (String×Nat)}{nm:List D}(L:uZ left n d M l nm)(q:Ky):
 (∃c∈cs,q∈solve nodes d [c])↔q∈((l.map (·.1)).foldl (stepT g) [[]]).filterMap (gi cls n):=by
 rwa[y9]
 constructor
 .rintro ⟨c,k,A⟩
  show KQ q ((PC L.ok N.hc).mp A) λs J w=>?_
  have B:=adH (cs:=cs) (λo P c h=>(N.u6 o P c h).2) J (λe=>by rw[L.nv]at e;cases e)
  show⟨l.map λp=>(p.1,(s p.1).getD 0),BZ.mpr ⟨[],by show a7 ..,_,rfl,![dK],λp Q=>?_⟩,?_⟩
  .show ct p (b3.mp Q) λm i=>?_
   show aV (B m.1 ((L.vars m.1).mpr (ij (f:=(·.1)) i))) λv H j=>?_
   show(s m.1).getD 0∈g
   rwa[j];show(z v).mpr H
  .have:cM cls (λx=>(l.map λp=>(p.1,(s p.1).getD 0)).lookup x) n=cM cls s n:=adG λx K=>by
    rwa[Qk ((L.vars x).mp K)]
    show aV (B x K) λv Z j=>?_
    rwa[j];rfl
   unfold gi
   rwa[this,J];rfl
 .rintro ⟨t,U,A⟩
  obtain⟨c,k,rfl⟩:=ej.mp A
  obtain⟨W,V,u,rfl,w,Y⟩:=BZ.mp U
  rw[bI.mp V,kz]at k |-
  have r:(u.map (·.1)).Nodup:=by rwa[w];show L.ok.nd
  have I:c∈cs:=by
   have B:=L.nv
   induction n using sj with
   |var x=>contradiction
   |c0 o=>show(N.u6 o [] c k).1
   |c1 o a=>
    show bU (k) λx Z e=>?_
    show(N.u6 _ _ c e).1
   |c2 o a b=>
    show bU (k) λx Z e=>?_
    show bU (e) λy Z e=>?_
    show(N.u6 _ _ c e).1
  show⟨c,I,(PC L.ok N.hc).mpr ⟨λx=>u.lookup x,k,λp Q=>?_,?_⟩⟩
  .have:p.1∈u.map (·.1):=by rwa[w];show ij (f:=(·.1)) Q
   show fW (this) λm i e=>?_
   show(u.lookup p.1).isSome=af
   rwa[<-e,lookup_mem r (show(m.1,m.2)∈u from i)];rfl
  .rwa [aeS w r]
theorem aeU{n n' s:Nat}{σ:St}{Y:List (D×D)}(m:MS n σ nodes cs)(N:NC nodes cls cs)(H:∀J,run (n+1) 412 [ak 1] (σ++J)=W (ay (cs.map iD),σ++J))(hs:σ[s]?=W (a8 Y))(K:m3 Y cls)
{g:Pt}{h:List Row}{ps:List Pt}{l:List (String×Nat)}{nm:List D}(L:uZ g.toD g h ps l nm)(S:BG g h=af)(hn':10<=n')(o:cs.length<=6){cs':List Nat}(v:∀x,x∈cs'↔x∈cs)(I:cs'.length<=6)(y:cs'.Nodup):
 ∃Q:List Ky,run (n+2) 231 [gS,xW h] σ=aa (ay (Q.map kD),σ)/\run (n'+1) 659 [ay (cs'.map iD),ak s,g.toD] σ=aa (ay (Q.map kD),σ) /\
  ∀q∈Q,cM cls (λx=>q.2.lookup x) g=aa q.1/\q.2.map (·.1)=l.map (·.1)/\∀p∈q.2,p.2∈cs:=by
 simp only[BG,eu,decide_eq_true_eq]at S
 obtain⟨⟨⟨⟨⟨⟨Z,s2⟩,s3⟩,s4⟩,s5⟩,X⟩,X⟩:=S
 show eA (aew m H L o (Qj N s2 Z)) λM k1 k2 k3=>?_
 have P:(((l.map (·.1)).foldl (stepT cs') [[]]).filterMap (gi cls g)).Nodup:=by
  show Ko (R:=(· ≠ ·)) (S:=(· ≠ ·)) _ (λa a' u b hb b' z e=>?_) (HZ y (aQ rfl))
  show bR (ej.mp hb) λc X k=>?_;clear hb;obtain rfl:=k
  show bR (ej.mp z) λc' X k=>?_;clear z;obtain rfl:=k
  show u (cO e).2
 have r:M.Perm (((l.map (·.1)).foldl (stepT cs') [[]]).filterMap (gi cls g)):=(List.perm_ext_iff_of_nodup k1 P).mpr λq=>![k2,aeT N v L]
 have A:(((l.map (·.1)).foldl (stepT cs') [[]]).filterMap (gi cls g)).length<64:=by
  rwa[<-r.length_eq]
  show bY (oJ k1 λq i=>?_) (Qj N s2 Z)
  show aV ((k2 q).mp i) λc U B=>?_
  show pQ.mpr ⟨c,U,B⟩
 have j:∀q∈((l.map (·.1)).foldl (stepT cs') [[]]).filterMap (gi cls g),cM cls (λx=>q.2.lookup x) g=aa q.1/\q.2.map (·.1)=l.map (·.1)/\∀p∈q.2,p.2∈cs:=λq i=>by
  show aV (y9.mp i) λt ht e=>?_
  revert o;show ct q (ej.mp e) λc o o=>?_
  clear e i;obtain⟨t0,h0,u,rfl,B,h3⟩:=BZ.mp ht
  rw[bI.mp h0,kz]at o |-
  show⟨o,B,λp r=>(v p.2).mp (h3 p r)⟩
 have w:=aeO hs K L s3 (by lia:g.dep<=n') (aC ‹_› (br ..)) (aC ‹_› (br ..)) I y A
 have e:=aet (nm:=l.map (·.1)) (r.map kD) λd V=>by
  show jg (V) λq i=>?_
  show⟨q,rfl,(j q (r.mem_iff.mp i)).2.1⟩
 obtain⟨Q,W⟩:=BK (f:=kD) (l:=gK (M.map kD)) λd V=>by
  show ct d (b3.mp ((j0 _).mem_iff.mp V)) λq X=>?_
  show⟨q,rfl⟩
 show⟨Q,by rwa[W];show k3,by rwa[W,e];show w,λq i=>?_⟩
 have:kD q∈gK (M.map kD):=by rwa[<-W];show ij i
 show fW (((j0 _).mem_iff.mp this)) λq' U B=>?_
 rwa[<-BQ B]
 show j q' (r.mem_iff.mp U)
end
def eS(L:List Int)(k:Nat):O:= a8 [(sD "cells",ay (L.map aq)),(sD "at",iD k)]
theorem aeV :hM (dG [(sD "cells",b),(sD "at",a)]) (bl (a0 "at"))=W a:=![]
theorem aeW :hM (dG [(sD "cells",b),(sD "at",a)]) (bl (a0 "cells"))=W b:=![]
theorem xX{L:List Int}(l:σ[0]?=W (eS L k))(y:k<=100)(z:0<w):∃v,v<w/\run (n+1) 627 [ak 0,iD w] σ=W (iD v,σ.set 0 (eS L (k+1))):=by
 have u:(σ.set 0 (eS L (k+1)))[0]?=W (eS L (k+1)):=![Dn ((cD.mp l).1:0<σ.length)]
 have b:(0:Int)<w:=jd.mpr ‹_›
 let a:Fm:=[W (ak 0),W (iD w),W (iD k),N]
 have o:ev tb (run n) (cK (ax 0) (fP "at")) [W (ak 0),W (iD w),N,N] σ=W (iD k,σ):=cX (aB rfl) kL (by rwa[lZ l];show aeV)
 have s:kH tb (run n) (iz (ax 0) (fP "at")) (aq (k+1)) a σ=W (a,σ.set 0 (eS L (k+1))):=by
  show iP (qC (m:=0) (e:= bl (a0 "at")) (L:=[(sD "cells",ay (L.map aq)),(sD "at",iD k)]) (aB rfl) kL l (![]) (br ..)) ?_
  rwa[show cp [(sD "cells",ay (L.map aq)),(sD "at",iD k)] (bl (a0 "at")) (aq (k+1))=[(sD "cells",ay (L.map aq)),(sD "at",iD (k+1))] by kernel_rfl]
  rfl
 have t:ev tb (run n) (cK (ax 0) (fP "cells")) a (σ.set 0 (eS L (k+1)))=W (ay (L.map aq),σ.set 0 (eS L (k+1))):=cX (aB rfl) kL (by rwa[lZ u];show aeW)
 have c:∀x:Int,∃v:Nat,v<w/\lM nA (aq x) (iD w)=W (iD v):=λx=>by
  have p:=DM x (DI b)
  show⟨(x%w).toNat,(zE p).mpr (DN x b),(Hu b).trans (aI (λi=>W (aq i)) (pZ p).symm)⟩
 have g:ev tb (run n) (dR iO (ax 2) (fa dO (cK (ax 0) (fP "cells")))) a (σ.set 0 (eS L (k+1)))=W (aM (I ((k:Int)<(L.map aq).length)),σ.set 0 (eS L (k+1))) :=
  fb (aB rfl) (d4 t rfl) rfl
 have d:∃v,v<w/\ba tb (run n) E6 [W (ak 0),W (iD w),N,N] σ=W (W (iD v),a,σ.set 0 (eS L (k+1))):=by
  unfold E6
  by_cases q:k<L.length
  .show bR (c L[k]) λv f e=>?_
   show⟨v,f,d8 o (fw (et (aB rfl) cE rfl) s ?_)⟩
   rw[dA (by rwa[bN];show jd.mpr ‹_›)]at g
   show mX g (di (et (cX t (aB rfl) (r:= aq L[k]) (l0 ![dy,dn q])) (aB rfl) e))
  .show aV (c ((9*k*k+4*k+3)%53)) λv f e=>?_
   show⟨v,f,d8 o (fw (et (aB rfl) cE rfl) s ?_)⟩
   rw[ef (by rwa[bN];showλh=>q (jd.mp h))]at g
   show de g (di (et (et (et (et (et (et cE (aB rfl) (r:= aq (9*k)) ?_) (aB rfl) (r:= aq (9*k*k)) ?_) (et cE (aB rfl) (r:= aq (4*k)) ?_) (r:= aq (9*k*k+4*k)) rfl) cE (r:= aq (9*k*k+4*k+3)) rfl) cE (r:= aq ((9*k*k+4*k+3)%53)) ?_) (aB rfl) e))
   .show By (j:=k) ⟨by decide,bY ‹_› (br ..)⟩
   .show By (j:=k) ⟨bY (kr 9 ‹k<=100›) (aQ rfl),bY ‹k<=100› (aQ rfl)⟩
   .show By (j:=k) ⟨by decide,bY ‹k<=100› (aQ rfl)⟩
   .show Hu (je _)
 show aV (d) λv f e=>?_
 show⟨v,f,dw (r:=W (iD v)) (ρ':=a) (by rfl) rfl rfl rfl rfl rfl e⟩
theorem aeX(n:Nat)(a:St):∀b∈qu,run (n+3) 129 [ak 2,sD b] a=W (cg,a):=by
 intro b h
 simp only[qu,bB,bc,or_false]at h
 rcases h with rfl|rfl|rfl|rfl|rfl|rfl|rfl|rfl|rfl|rfl|rfl|rfl|rfl|rfl|rfl|rfl|rfl|rfl|rfl
 all_goals kernel_rfl
def eE(l:List (String×List Nat)):List (D×D):=l.zipIdx.map λp=>(a9 p.1,iD p.2)
theorem Ql(l:List (String×List Nat))(p:String×List Nat):eE (l++[p])=eE l++[(a9 p,iD l.length)]:=by simp[eE,List.zipIdx_append]
theorem B3 :(eE l)[i]?=(l[i]?).map λp=>(a9 p,iD i):=by
 simp only[eE,dy,List.getElem?_zipIdx]
 cases l[i]? <;>(first|rfl|simp)
theorem xY(h:∀p∈l,∃a,p.1=a9 a)(q:String×List Nat):keyOk l (a9 q)=U:=by
 unfold keyOk
 simp only[eu,decide_eq_true_eq,bQ,bX,(qI q).1,(qI q).2]
 show⟨⟨trivial,dm _,dP _⟩,λp b=>?_⟩
 show dM (h p b) λa e=>?_
 have:=qI a
 rwa[e,this.1,this.2]
 show⟨⟨rfl,dm _⟩,rfl⟩
theorem xZ(l:List (String×List Nat)):∀p∈eE l,∃a,p.1=a9 a:=λp b=>by
 show ct p (b3.mp b) λq z=>?_;show⟨q.1,rfl⟩
theorem B4(h:cW (eE l) (a9 p)=W i):l[i]?=W p:=by
 show dM (kF h) λv a=>?_
 rw[B3]at a
 show eG (a) λq b c=>?_
 rwa[b,sr (cO c).1]
theorem B5(h:p∉l):cW (eE l) (a9 p)=N:=by
 generalize q:cW (eE l) (a9 p)=a;induction a with
 |none=>rfl
 |some i=>show aF (cN (B4 q)) h
theorem aeY(h:p∈l):∃i,cW (eE l) (a9 p)=W i/\l[i]?=W p/\cw (eE l) (a9 p)=W (iD i):=by
 generalize q:cW (eE l) (a9 p)=a;induction a with
 |none=>
  obtain⟨i,b⟩:=List.mem_iff_getElem?.mp h
  show aF (b3.mpr ⟨(a9 p,iD i),cN ![B3,b],rfl⟩) (tU q)
 |some i=>
  show⟨i,rfl,(B4 q),by unfold cw;rwa[q,c5,B3,(B4 q)];rfl⟩
section
variable{n:Nat}{h:HS}{J:St}{op:String}{kids:List Nat}
theorem g4:(mk h++J)[4]?=W (a8 (eE h.nodes)):=rfl
def m4(op:String)(kids:List Nat)(a b:Option D):Fm:=[W (ak 2),W (sD op),W (aw (kids.map iD)),a,b,N,N,N,N,N]
theorem Qm{c d:Option D}(e:kids.length<=10):ev tb b (iV cV (e0 (aS (ax 1) aT)) (fa gM (ax 2))) (m4 op kids c d) a=W (a9 (op,kids),a):=by
 show et (eD (bb (aB rfl))) (d4 (aB rfl) rfl) (px (by simp only[bN,fC,mr];lia))
theorem oa{f:Fm}(e:f[i]?=W (W (ak 2)))(g:a[2]?=W (cz 198 c))(j:c.lookup k=W d):ev tb b (dZ (ax i) k) f a=W (d,a) :=
 si (aB e) (by unfold qj;rwa[dD g];rfl) (by rwa[dD g];show j)
theorem Qn(a:kids.length<=10) :ev tb (run n) (dR .In (ax 3) (dZ (ax 0) 1)) (m4 op kids (W (a9 (op,kids))) o4) (mk h++J)=W (aM (cW (eE h.nodes) (a9 (op,kids))).isSome,mk h++J):=by
 show fb (aB rfl) (oa rfl (@g2 h J) rfl) ?_
 rwa[lZ (@g4 h J)]
 show(if keyOk (eE h.nodes) (a9 (op,kids))=U then W (cW (eE h.nodes) (a9 (op,kids))).isSome else N).map aM=_
 rwa[aJ (xY (xZ _) (op,kids))];rfl
theorem aeZ(a:kids.length<=10)(b:(op,kids)∈h.nodes):∃i,h.nodes[i]?=W (op,kids)/\run (n+1) 122 [ak 2,sD op,aw (kids.map iD)] (mk h++J)=W (iD i,mk h++J):=by
 show eA (aeY b) λi c d e=>?_
 have t:=Qn (n:=n) (h:=h) (J:=J) (op:=op) a (o4:=N)
 rw[c]at t
 show⟨i,d,dw (r:=W (iD i)) (ρ':=m4 op kids (W (a9 (op,kids))) N) (by rfl) rfl rfl rfl rfl rfl ?_⟩
 show ba tb (run n) wX (m4 op kids N N) _=_
 unfold wX
 show d8 (Qm a) (mX t (di (cX (oa rfl (@g2 h J) rfl) (aB rfl) ?_)))
 rwa[lZ (@g4 h J)]
 show pv (xY (xZ _) (op,kids)) e
theorem ae0(m:σ[2]?=W (cz 198 a))(o:a.lookup 0=W (ak 3))(p:σ[3]?=W (aO l)){x3:Option D}(e:List Nat):∀(f:Option D),(∀k∈e,k<l.length) ->
 ∃c,loopGo (λd g σ=>(dY (bt 4) d g).bind λg=>ba tb (run n) (cZ (k7 (.not (t5 .LtE iO (dI 0) (ax 4) (fa dO (dZ (ax 0) 0)))) (cZ .raise c7) c7) c7) g σ) (e.map iD) (m4 op kids x3 f) σ=W (N,m4 op kids x3 c,σ):=by
 induction e with
 |nil=>showλf z=>⟨f,rfl⟩
 |cons k e i=>
  intro f j
  show(i (W (iD k)) λx q=>j x (bq _ q)).elim λc i=>⟨c,iE (de (acR (b:=U) (acX cE (aB rfl) ?_ (d4 (r:= aq l.length) (oa rfl m o) (lj (d7 p))) ?_)) eI) i⟩
  .show ac3 k
  .show Pk (j k (a7 ..))
theorem ae1(l:List Int):∃w,qh (l.map aq)=W w:=by
 induction l with
 |nil=>show⟨0,rfl⟩
 |cons a r b=>show b.elim λw h=>⟨a+w,aI (gj (a+ ·)) h⟩
theorem ae2(l:List Int)(b:Int):∃w,maxD (l.map aq++[aq b])=W w:=by
 induction l with
 |nil=>show⟨b,rfl⟩
 |cons a r c=>
  show c.elim λw h=>⟨if a<w then w else a,?_⟩
  show maxD (aq a::(r.map aq++[aq b]))=_
  generalize r.map aq++[aq b]=m at h |-
  induction m using bH with
  |nil=>show nn h
  |cons=>show aI (gj λj=>if a<j then j else a) h
theorem Qo{L:List Int}(f:σ[2]?=W (cz 198 b))(i:b.lookup a=W (ak o))(j:σ[o]?=W (aO (L.map aq)))(l:∀k∈kids,k<L.length):
 ev tb (run n) (eH Y [N,N,W 0] (bt 1) (dW (mL (ax 3) (dI 1))) aT (cK (dZ (ax 2) a) (ax 1))) (m4 op kids (W (a9 (op,kids))) c) σ=W (ay ((kids.map λk=>L.getD k 0).map aq),σ):=by
 have q:=jq (cal:=run n) (σ:=σ) (mp:=[N,N,W 0]) (tg:= bt 1) (it:= dW (mL (ax 3) (dI 1))) (elt:= cK (dZ (ax 2) a) (ax 1)) (ρ:=m4 op kids (W (a9 (op,kids))) c) (ds:=kids.map iD)
  (g:=λd=>match d with|.int k=> aq (L.getD k.toNat 0)|d=>d) (b6 (qB (aB rfl) cE (r:= aw (kids.map iD)) qD) rfl) λd e=>by
  show ct d (b3.mp e) λk m=>?_
  show⟨[N,W (iD k),W (ak 2)],rfl,cX (oa rfl f i) (aB rfl) ?_⟩
  rwa[d7 j]
  show l0 (d:=aq (L.getD k 0)) (![dy,ja,dn (l k m)])
 rwa[q,dK,dK]
 rfl
theorem ae3(c:kids.length<=10)(q:op∈qu)(z:h.nodes.length<=100)(s:h.wt.length=h.nodes.length)(u:h.dp.length=h.nodes.length)(o:(op,kids)∉h.nodes)(e:∀k∈kids,k<h.nodes.length):
 ∃w d:Int,run (n+4) 122 [ak 2,sD op,aw (kids.map iD)] (mk h++J)=W (iD h.nodes.length,mk {h with nodes:=h.nodes++[(op,kids)],wt:=h.wt++[w],dp:=h.dp++[d]}++J):=by
 have t:=Qn (n:=n+3) (h:=h) (J:=J) (op:=op) c (o4:=N)
 rw[B5 o]at t
 obtain⟨o4,v⟩:=ae0 (n:=n+3) (op:=op) (kids:=kids) (σ:=mk h++J) (@g2 h J) rfl (@g3 h J) (x3:=W (a9 (op,kids))) kids N (λk c=>by rwa[bN];show e k c)
 obtain⟨w,g⟩:=ae1 (kids.map λk=>h.wt.getD k 0)
 show dM (ae2 (kids.map λk=>h.dp.getD k 0) 0) λd i=>?_
 let a:St:=(mk h++J).set 4 (a8 (eE h.nodes++[(a9 (op,kids),iD h.nodes.length)]))
 let σ2:St:=a.set 3 (aO (h.nodes.map a9++[a9 (op,kids)]))
 let σ3:St:=σ2.set 5 (aO (h.wt.map aq++[aq (1+w)]))
 let b:St:=σ3.set 6 (aO (h.dp.map aq++[aq (1+d)]))
 have x:b=mk {h with nodes:=h.nodes++[(op,kids)],wt:=h.wt++[1+w],dp:=h.dp++[1+d]}++J:=by
  show _=_
  simp only[b,σ3,σ2,a,mk,gH,ea,Dg]
  rwa[show((h.nodes++[(op,kids)]).zipIdx.map λp=>(a9 p.1,iD p.2))=eE (h.nodes++[(op,kids)])from rfl,Ql]
  rfl
 show⟨1+w,1+d,?_⟩
 rwa[<-x]
 have y:∀j:Fm,j[0]?=W (W (ak 2))->ev tb (run (n+3)) (fa dO (dZ (ax 0) 0)) j (mk h++J)=W (iD h.nodes.length,mk h++J):=λj l=>d4 (oa l (@g2 h J) rfl) (![lj (d7 (@g3 h J)),bN])
 show dw (r:=W (iD h.nodes.length)) (ρ':=m4 op kids (W (a9 (op,kids))) o4) (by rfl) rfl rfl rfl rfl rfl ?_
 show ba tb (run (n+3)) wX (m4 op kids N N) _=_
 unfold wX
 show d8 (Qm c) (de t (gA (c9 (aB rfl) (dD (@g2 h J)) (f:=129) rfl (bb (aB rfl)) (aeX n _ op q)) ?_))
 show(kP (b6 (qB (aB rfl) cE (r:= aw (kids.map iD)) qD) rfl) v).trans ?_
 show fw (y _ rfl) (iP (qC (m:=4) (oa rfl (@g2 h J) rfl) (aB rfl) (@g4 h J) (xY (xZ _) (op,kids)) (by simp[eE];show bY ‹_› (br ..))) ?_) (σ2:=a) (ρ':=m4 op kids (W (a9 (op,kids))) o4) ?_
 .unfold cp;rwa[B5 o]
 show gA (gz (σ3:=σ2) (r:= cg) (oa rfl (show a[2]?=_ from rfl) rfl) (![d7 (show a[3]?=W (aO (h.nodes.map a9))from rfl)]) (bb (aB rfl)) ?_) ?_
 .show mY (show a[3]?=W (aO (h.nodes.map a9))from rfl) (by rwa[bN];show bY ‹_› (aQ rfl))
 show gA (gz (σ3:=σ3) (r:= cg) (oa rfl (show σ2[2]?=_ from rfl) rfl) (![d7 (show σ2[5]?=W (aO (h.wt.map aq))from rfl)]) (bb (et (r:= aq (1+w)) cE (d4 (r:= aq w) (Qo (show σ2[2]?=_ from rfl) rfl (show σ2[5]?=W (aO (h.wt.map aq))from rfl) (λk c=>by rwa[s];show e k c)) (by show(qh _).map _=_;rwa[g];rfl)) rfl)) ?_) ?_
 .show mY (show σ2[5]?=W (aO (h.wt.map aq))from rfl) (by rwa[bN];lia)
 show gA (gz (σ3:=b) (r:= cg) (oa rfl (show σ3[2]?=_ from rfl) rfl) (![d7 (show σ3[6]?=W (aO (h.dp.map aq))from rfl)]) (bb (et (r:= aq (1+d)) cE (d4 (r:= aq d) (et (r:= ay ((kids.map λk=>h.dp.getD k 0).map aq++[aq 0])) (Qo (show σ3[2]?=_ from rfl) rfl (show σ3[6]?=W (aO (h.dp.map aq))from rfl) (λk c=>by rwa[u];show e k c)) (n7 (bb cE)) ?_) (by show(maxD _).map _=_;rwa[i];rfl)) rfl)) ?_) ?_
 .show Bw (by simp only[bN,fC,mr];show bY ‹_› (br ..))
 .show mY (show σ3[6]?=W (aO (h.dp.map aq))from rfl) (by rwa[bN];lia)
 show di (et (d4 (r:= aq (h.nodes.length+1)) (oa rfl (show b[2]?=_ from rfl) rfl) ![lj (d7 (show b[3]?=W (aO (h.nodes.map a9++[a9 (op,kids)]))from rfl)),cF,bN]) cE ?_)
 show Hv _
end
theorem Qp{ks:List Nat}(h:ks.length<64):∃L:List Nat,qg (ks.map iD)=W (L.map iD)/\(∀c,c∈L↔c∈ks)/\L.Nodup:=by
 induction ks using bH with
 |nil=>show⟨[],rfl,λz=>nF,kU⟩
 |cons a r=>
  obtain⟨L,j⟩:=BK (f:=iD) (l:=dedup ((a::r).map iD)) λd m=>by
   show ct d (b3.mp (BJ.mp m)) λk z=>?_;show⟨k,rfl⟩
  have g:L.length<64:=by
   have i:=PU ((a::r).map iD)
   rw[<-j,bN,bN]at i
   show bY ‹_› ‹_›
  show⟨iG L,?_,λc=>?_,?_⟩
  .unfold qg
   rwa[aL (fe),aJ (aY (bQ.mpr λd m=>jg (Q:=λd=>I (d.kk=0)=U) m λz z=>rfl)),<-j,BI g]
  .rwa [(ll L).mem_iff]
   have:c∈L↔iD c∈L.map iD:=⟨λu=>ij u,λu=>by
    show fW (u) λo i n=>?_
    rwa[<-j9 n];show i⟩
   rwa[this,j,BJ]
   constructor
   .intro u
    show fW (u) λo i n=>?_
    rwa[<-j9 n];show i
   .show λu=>ij u
  .rwa [(ll L).nodup_iff]
   have:=HT ((a::r).map iD)
   rw[<-j]at this
   show DX iD (λa b u e=>u (aI iD e)) this
section
variable{n:Nat}{h:HS}{J:St}
theorem H3:(mk h++J)[13]?=W (a8 h.kn):=rfl
theorem sG:(mk h++J)[14]?=W (a8 h.ab):=rfl
def l7(h:HS)(i:Nat)(q:String×List Nat):List (D×D):=match cw h.kn (a9 q)with
 |some _=>h.kn
 |none=>cp h.kn (a9 q) (iD i)
theorem Qq(o:Flat h.up)(B:h.nodes[i]?=W p)(z:i<h.up.length)(Q:∀k∈p.2,k<h.up.length)(H:p.2.length<=10)(s:∀e∈h.kn,∃I,e.1=a9 I)(M:h.kn.length<10000)
(K:∀v,cw h.kn (a9 (p.1,p.2.map h.cl))=aa v->∃j,v=iD j/\j<h.up.length/\h.cl j=h.cl i):
 run (n+4) 363 [ak 1,iD i] (mk h++J)=aa (cg,mk {h with kn:=l7 h i (p.1,p.2.map h.cl)}++J):=by
 have c:=xY s (p.1,p.2.map h.cl)
 have m:∃j,j<h.up.length/\h.cl j=h.cl i/\ev tb (run (n+3)) (gL t9 (dZ (ax 0) 12) (aS (dB "node" (ax 0) (aS (ax 1) aT)) (aS (ax 1) aT))) [aa (ak 1),aa (iD i),ae] (mk h++J)=aa (iD j,mk {h with kn:=l7 h i (p.1,p.2.map h.cl)}++J):=by
  have d:∀v g,f5 t9 (ak 13) [a9 (p.1,p.2.map h.cl),iD i] (mk h++J)=aa (v,g)->ev tb (run (n+3)) (gL t9 (dZ (ax 0) 12) (aS (dB "node" (ax 0) (aS (ax 1) aT)) (aS (ax 1) aT))) [aa (ak 1),aa (iD i),ae] (mk h++J)=aa (v,g):=λv g e=>
   gz (at_of rfl (@g1 h J) (aQ rfl) rfl) (![lZ (@H3 h J)]) (b8 (c9 (aB rfl) (dD (@g1 h J)) (f:=346) rfl (bb (aB rfl)) (PK (n:=n) (J:=J) o B Q H)) (bb (aB rfl))) e
  unfold l7
  generalize q:cw h.kn (a9 (p.1,p.2.map h.cl))=t;induction t with
  |some v=>
   show k0 (K v q) λj u w x=>?_;obtain rfl:=u
   show⟨j,w,x,d _ _ ?_⟩
   rwa[Pj H3 c (bg ‹_› (br ..)),q]
  |none=>
   show⟨i,z,rfl,d _ _ ?_⟩
   rwa[Pj H3 c (bg ‹_› (aQ rfl)),q]
   rfl
 show eA (m) λj w x m=>?_
 generalize y:({h with kn:=l7 h i (p.1,p.2.map h.cl)}:HS)=l at m |-
 have b:l.up=h.up:=![<-y]
 have A:=xT (n:=n+1) (h:=l) (J:=J) (by rwa[b];show o) (i:=j) (a:=h.cl j) (by rwa[b];show u2 w)
 have L:=xT (n:=n+1) (h:=l) (J:=J) (by rwa[b];show o) (i:=i) (a:=h.cl i) (by rwa[b];show u2 z)
 rw[x]at A
 show dw (r:=ae) (ρ':=[aa (ak 1),aa (iD i),aa (iD j)]) (by rfl) rfl rfl rfl rfl rfl ?_
 show ba tb (run (n+3)) EW [aa (ak 1),aa (iD i),ae] _=_
 unfold EW
 show d8 m (de (fb (c9 (aB rfl) (dD (@g1 l J)) (f:=370) rfl (bb (aB rfl)) A) (c9 (aB rfl) (dD (@g1 l J)) (f:=370) rfl (bb (aB rfl)) L) ?_) eI)
 show(Pg _ _).trans (![dA rfl])
end
theorem Qr:∀{lots:List (List Nat)} {us:List (List D)} {c:Nat} {l:List D},lots.length=us.length->(iF lots us).set (2*c+1) (aO l)=iF lots (us.set c l)
 |[],[],_,_,_=>rfl
 |[],_::_,_,_,h=>by show kz _
 |_::_,[],_,_,h=>by show kz _
 |x::r,y::q,0,l,_=>rfl
 |x::r,y::q,c+1,l,h=>by
  have a:=Qr (lots:=r) (us:=q) (c:=c) (l:=l) (by show gs ‹_›)
  rwa[show 2*(c+1)+1=(2*c+1)+1+1 by show sX ..]
  show _::_::(iF r q).set (2*c+1) (aO l)=_
  rwa[a];rfl
theorem Qs:∀{lots:List (List Nat)} {us:List (List D)} {c:Nat} {l:List Nat},lots.length=us.length->(iF lots us).set (2*c) (aO (l.map iD))=iF (lots.set c l) us
 |[],[],_,_,_=>rfl
 |[],_::_,_,_,h=>by show kz _
 |_::_,[],_,_,h=>by show aJ ‹_›
 |x::r,y::q,0,l,_=>rfl
 |x::r,y::q,c+1,l,h=>by
  have a:=Qs (lots:=r) (us:=q) (c:=c) (l:=l) (by show gs ‹_›)
  rwa[show 2*(c+1)=(2*c)+1+1 by show y1 _]
  show _::_::(iF r q).set (2*c) (aO (l.map iD))=_
  rwa[a];rfl
theorem Qt:∀{lots:List (List Nat)} {us:List (List D)} {a:List Nat} {b:List D},lots.length=us.length->iF (lots++[a]) (us++[b])=iF lots us++[aO (a.map iD),aO b]
 |[],[],_,_,_=>rfl
 |[],_::_,_,_,h=>by show aJ ‹_›
 |_::_,[],_,_,h=>by show aJ ‹_›
 |x::r,y::q,a,b,h=>by
  show _::_::iF (r++[a]) (q++[b])=_
  rwa[Qt (gs ‹_›)];rfl
section
variable{n:Nat}{h:HS}{J:St}
theorem ae4(a:h.lots.length=h.us.length):(mk h).length=16+2*h.lots.length:=by
 unfold mk
 rwa[cF,HQ a];rfl
theorem ae5(b:h.lots.length=h.us.length)(d:c<h.us.length):(mk h++J).set (17+2*c) (aO l)=mk {h with us:=h.us.set c l}++J:=by
 have a:=HQ b
 rwa[show 17+2*c=(2*c+1)+16 by show ky ..]
 show _=_++iF h.lots (h.us.set c l)++J
 rwa[<-Qr b]
 show _::_::_::_::_::_::_::_::_::_::_::_::_::_::_::_::(iF h.lots h.us++J).set (2*c+1) (aO l)=_
 rwa[Jz _ _ (by rwa[a];show bg (dP _) (kr 2 (ey d b.symm)))]
 rfl
theorem ae6(b:h.lots.length=h.us.length)(d:c<h.us.length):(mk h++J).set (16+2*c) (aO (l.map iD))=mk {h with lots:=h.lots.set c l}++J:=by
 have a:=HQ b
 rwa[show 16+2*c=(2*c)+16 by show ky ..]
 have e:mk {h with lots:=h.lots.set c l}=mk {h with lots:=h.lots.set c l}:=rfl
 show _::_::_::_::_::_::_::_::_::_::_::_::_::_::_::_::(iF h.lots h.us++J).set (2*c) (aO (l.map iD))=_
 rwa[Jz _ _ (by rwa[a];show Nat.mul_lt_mul_of_pos_left (ey d b.symm) Nat.two_pos),Qs b]
 unfold mk
 dsimp only
 rwa[mj]
 rfl
theorem ae7(f:σ[7]?=W (cz 316 [(5,ak 8),(6,ak 9),(7,ak 10)]))(g:σ[8]?=W (aO b))(k:σ[9]?=W (aO a))(l:a.length=b.length)(u:b.length<1000):
 run (n+1) 259 [ak 7] σ=W (iD b.length,(σ.set 8 (aO (b++[iD b.length]))++[aO [iD b.length]]).set 9 (aO (a++[ak σ.length]))):=by
 have v:=(cD.mp f).1
 have m:=(cD.mp g).1
 have w:=(cD.mp k).1
 let c:=σ.set 8 (aO (b++[iD b.length]))
 let d:=c++[aO [iD b.length]]
 let σ3:=d.set 9 (aO (a++[ak σ.length]))
 have o:c.length=σ.length:=mj
 have i:c[7]?=W (cz 316 [(5,ak 8),(6,ak 9),(7,ak 10)]):=by rwa[<-f];show mq (kv (dP _))
 have j:c[9]?=W (aO a):=by rwa[<-k];show mq (eU (dP _))
 have p:c[8]?=W (aO (b++[iD b.length])):=Dn m
 have q:d[9]?=W (aO a):=by rwa[<-j];show fB (ey ‹_› (gq ‹_›))
 have s:σ3[7]?=W (cz 316 [(5,ak 8),(6,ak 9),(7,ak 10)]):=by
  rwa[<-i,show σ3[7]?=d[7]? from mq (aQ rfl)];show fB (ey ‹_› (gq ‹_›))
 have t:σ3[8]?=W (aO (b++[iD b.length])):=by
  rwa[<-p,show σ3[8]?=d[8]? from mq (by show kv (dP _))];show fB (ey ‹_› (gq ‹_›))
 have e:316∈lN:=aQ rfl
 show dw (r:=W (iD b.length)) (ρ':=[W (ak 7),N]) (by rfl) rfl rfl rfl rfl rfl ?_
 show ba tb (run n) EU [W (ak 7),N] _=_
 unfold EU
 show gA (gz (σ3:=c) (r:= cg) (at_of rfl f e rfl) (![d7 g]) (bb (d4 (r:=iD b.length) (at_of rfl f e rfl) (lj (d7 g)))) ?_) ?_
 .show mY g (bg ‹_› (br ..))
 show gA (gz (σ3:=σ3) (r:= cg) (at_of rfl i e rfl) (![d7 j]) (bb (Bq (bb (d4 (r:=iD b.length) (at_of rfl i e rfl) ![lj (d7 j),l])))) ?_) ?_
 .show f5 iC (ak 9) [ak c.length] d=_
  rwa[mY q (by lia),o]
 show di (et (d4 (r:= aq (b.length+1)) (at_of rfl s e rfl) (by rwa[lj (d7 t)];simp)) cE ?_)
 show Hv _
end
def cB(c:List D)(k:Nat)(ns:List (String×List Nat))(wt dp:List Int)(us:List (List D)):HS :=
 {cells:=c,at_:=k,nodes:=ns,wt:=wt,dp:=dp,up:=bE ns.length,lots:=(bE ns.length).map λi=>[i],fQ:=[],i3:=[],fo:=[],kn:=eE ns,ab:=(bE ns.length).map λi=>(iD i,ak (17+2*i)),wa:=[],us:=us}
def H4(N:Nat)(us:List (List D)):Prop:=us.length=N/\∀l∈us,l.length<=3*N/\∀d∈l,∃j,j<N/\d=iD j
section
variable{n:Nat}{c:List D}{k:Nat}{ns:List (String×List Nat)}{wt dp:List Int}{us:List (List D)}{J:St}
theorem Qu:Flat (bE n):=λi a h=>by
 obtain⟨d,b⟩:=cD.mp h
 rw[Je]at b
 subst b;show h
theorem ae8{h:HS}(a:h.up=bE n)(b:i<n):h.cl i=i:=by
 have:=u2 (h:=h) (k:=i) (by rwa[a];simpa using b)
 rw[a,pS b]at this
 show(L this).symm
theorem Qv(m:Nat)(f:Nat->D)(i:Nat):keyOk ((bE m).map λi=>(iD i,f i)) (iD i)=U:=u3 (λp a=>jg (Q:=λp:D×D=>∃i,p.1=iD i) a λi z=>⟨i,rfl⟩) i
theorem Qw(f:Nat->D)(d:i<m):cw ((bE m).map λi=>(iD i,f i)) (iD i)=W (f i):=by
 unfold cw
 generalize q:cW ((bE m).map λi=>(iD i,f i)) (iD i)=a;induction a with
 |none=>show aF (b3.mpr ⟨(iD i,f i),b3.mpr ⟨i,fM.mpr d,rfl⟩,rfl⟩:iD i∈((bE m).map λi=>(iD i,f i)).map (·.1)) (tU q)
 |some j=>
  obtain⟨v,b⟩:=kF q
  rwa[c5,b]
  rw[dy]at b
  show eG (b) λx g e=>?_
  simp only[vV]at e
  rwa[<-e.2,j9 e.1];rfl
theorem ae9(f:Nat->D) :cW ((bE m).map λi=>(iD i,f i)) (iD m)=N:=by
 generalize q:cW ((bE m).map λi=>(iD i,f i)) (iD m)=a;induction a with
 |none=>rfl
 |some j=>
  obtain⟨v,b⟩:=kF q
  show fW ((cN b)) λx d e=>?_
  simp only[vV]at e
  have:=j9 e.1
  have:=fM.mp d
  lia
end
section
variable{n:Nat}{c:List D}{k:Nat}{ns:List (String×List Nat)}{wt dp:List Int}{us:List (List D)}{J:St}{op:String}{kids:List Nat}
def pC(op:String)(kids:List Nat)(a b:Option D):Fm:=[W (ak 1),W (sD op),W (aw (kids.map iD)),a,b,N,N]
def H5(m b:Nat)(us:List (List D)):Prop:=∀l∈us,l.length<=b/\∀d∈l,∃j,j<m/\d=iD j
theorem afa{h:HS}(W:h.lots.length=e+1)(w:h.ab=(bE (e+1)).map λi=>(iD i,ak (17+2*i)))(f:List Nat):∀(u:List (List D)) (b:Nat) (v:Option D),(∀c∈f,c<e)->u.length=e+1->b+f.length<=1000->H5 (e+1) b u ->
 ∃g o,loopGo (λd y M=>(dY (bt 4) d y).bind λy=>ba tb (run n) (cZ (.ex (gL iC (cK (dZ (ax 0) 5) (ax 4)) (aS (ax 3) aT))) c7) y M) (f.map iD) (pC op kids (aa (iD e)) v) (mk {h with us:=u}++J)=aa (N,pC op kids (aa (iD e)) g,mk {h with us:=o}++J) /\
  o.length=e+1/\H5 (e+1) (b+f.length) o:=by
 induction f with
 |nil=>showλu b v k p k s=>⟨v,u,rfl,p,s⟩
 |cons a f z=>
  intro u b v H p A s
  have I:=H a (a7 ..)
  have t:({h with us:=u}:HS).lots.length=({h with us:=u}:HS).us.length:=by show h.lots.length=u.length;show iP ‹_› (gq ‹_›)
  have j:u[a]?=aa (u[a]'(ey (jQ I) p.symm)):=dn _
  generalize P:u[a]'_=l at j
  have m:=s l (cN j)
  have K:=PS (h:={h with us:=u}) (J:=J) t j
  rw[fC]at A
  have B:H5 (e+1) (b+1) (u.set a (l++[iD e])):=λx Q=>by
   rcases List.mem_or_eq_of_mem_set Q with q|rfl
   .show ⟨by have:=(s x q).1;show gV ‹_›,(s x q).2⟩
   .show ⟨by rwa[cF];show ek m.1,λd hd=>?_⟩
    rcases d9.mp hd with q|q
    .show m.2 d q
    .show ⟨e,dP _,bI.mp q⟩
  show oK (z (u.set a (l++[iD e])) (b+1) (aa (iD a)) (λx Q=>H x (bq _ Q)) (by rwa[mj];show p) (aC (bC (kT ..)) A) B) λg o z U V=>?_
  show⟨g,o,?_,U,by rwa[fC,show b+(f.length+1)=b+1+f.length from(kT ..).symm];show V⟩
  rwa[ea]
  show iE (gA (gz (σ3:=mk {h with us:=u.set a (l++[iD e])}++J) (r:= cg) (cX (r:= ak (17+2*a)) (at_of rfl (@g1 {h with us:=u} J) (aQ rfl) rfl) (aB rfl) ?_) (![d7 K]) (bb (aB rfl)) ?_) eI) z
  .rwa [lZ (@sG {h with us:=u} J)]
   show hM (dG h.ab) (iD a)=_
   rwa[w]
   show pv (Qv _ _ _) (Qw _ (jQ ‹_›))
  .rwa [mY K (bY (aC m.1 (aC (ew ..) A)) (aQ rfl)),ae5 t (ey (jQ I) p.symm)]
theorem afb(b:h.up=bE m)(a:σ=mk h++J)(e:∀x∈kids,x<m){o3 o4:Option D}:
 ev tb (run (n+2)) (eH Y [N,N,W 0] (bt 1) (dW (ax 2)) aT (dB "find" (ax 2) (aS (ax 1) aT))) (pC op kids o3 o4) σ=W (ay (kids.map iD),σ):=by
 subst a
 have q:=jq (cal:=run (n+2)) (σ:=mk h++J) (mp:=[N,N,W 0]) (tg:= bt 1) (it:= dW (ax 2)) (elt:= dB "find" (ax 2) (aS (ax 1) aT)) (ρ:=pC op kids o3 o4) (ds:=kids.map iD) (g:=id) (b6 (aB rfl) rfl) λd i=>by
  show ct d (b3.mp i) λx j=>?_
  show⟨[N,W (iD x),W (ak 1)],rfl,c9 (aB rfl) (dD (@g1 h J)) (f:=370) rfl (bb (aB rfl)) (xT (by rwa[b];show Qu) (by rwa[b];show pS (e x j)))⟩
 rwa[q,List.map_id]
theorem afc{wt1 dp1:List Int}{p:String×List Nat}(d:us.length=ns.length):(((mk {cB c k ns wt dp us with nodes:=ns++[p],wt:=wt1,dp:=dp1}).set 8 (aO ((bE ns.length).map iD++[iD ns.length]))++[aO [iD ns.length]]).set 9 (aO ((bE ns.length).map (λi=>ak (16+2*i))++[ak (16+2*ns.length)]))++[aO []]).set 14 (a8 (((bE ns.length).map λi=>(iD i,ak (17+2*i)))++[(iD ns.length,ak (17+2*ns.length))])) =
 mk {cB c k (ns++[p]) wt1 dp1 (us++[[]])with kn:=eE ns}:=by
 have t:=Qt (lots:=(bE ns.length).map λi=>[i]) (us:=us) (a:=[ns.length]) (b:=[]) (by simp[d])
 have e:∀a b:O,∀T:St,T++[a,b]=(T++[a])++[b]:=λa b T=>by simp
 rw[e]at t
 simp only[mk,cB,cF,bN,gI,fC,mr,JA,gH,ea,Dg,iK]at t |-
 rwa[t]
 rfl
theorem Qx{σ:St}{a b c d:O}{i:Nat}(h:i<σ.length)(e:8≠i)(f:9≠i):((σ.set 8 a++[b]).set 9 c++[d])[i]?=(σ++[])[i]? :=by
 rwa[eM,fB (by rwa[mj,cF,mj];show C9 _ h),mq f,fB (by rwa[mj];show h),mq e]
theorem B6(ho:op∈qu)(hk:kids.length<=2)(hN:ns.length<=10)(y:∀x∈kids,x<ns.length)(hm:(op,kids)∉ns)(hw:wt.length=ns.length)(hd:dp.length=ns.length)(hU:H4 ns.length us):
 ∃U V W,U.length=(ns++[(op,kids)]).length/\V.length=(ns++[(op,kids)]).length/\H4 (ns++[(op,kids)]).length W/\run (n+6) 351 [ak 1,sD op,aw (kids.map iD)] (mk (cB c k ns wt dp us))=aa (iD ns.length,mk (cB c k (ns++[(op,kids)]) U V W)):=by
 show p9 (ae3 (n:=n+1) (h:=cB c k ns wt dp us) (J:=[]) (op:=op) (kids:=kids) (by show aC ‹_› (br ..)) ho (by show ns.length<=100;show aC ‹_› (br ..)) hw hd hm y) λw d tk=>?_
 simp only[eM]at tk
 generalize e:({cB c k ns wt dp us with nodes:=(cB c k ns wt dp us).nodes++[(op,kids)],wt:=(cB c k ns wt dp us).wt++[w],dp:=(cB c k ns wt dp us).dp++[d]}:HS)=g at tk
 have Gu:g.lots.length=g.us.length:=by rwa[<-e];show((bE ns.length).map λi=>[i]).length=us.length;simp[hU.1]
 have a:(mk g).length=16+2*ns.length:=by rwa[ae4 Gu,<-e];simp[cB]
 have q7:(mk g)[7]?=aa (cz 316 [(5,ak 8),(6,ak 9),(7,ak 10)]):=rfl
 have q8:(mk g)[8]?=aa (aO ((bE ns.length).map iD)):=![<-e]
 have q9:(mk g)[9]?=aa (aO ((bE ns.length).map λi=> ak (16+2*i))):=by
  rwa[<-e]
  show aa (aO ((bE ((bE ns.length).map λi=>[i]).length).map λi=> ak (16+2*i)))=_
  rwa[bN,gI]
 have sz:=PJ (n:=n+4) (h:=g) (J:=[])
 have Y:g.up=bE ns.length:=![<-e]
 simp only[eM,Y,gI]at sz
 have N:=ae7 (n:=n+4) q7 q8 q9 (by simp) (by simp;show bY ‹_› (br ..))
 simp only[bN,gI,a]at N
 have bn:=afc (c:=c) (k:=k) (ns:=ns) (wt:=wt) (dp:=dp) (us:=us) (wt1:=wt++[w]) (dp1:=dp++[d]) (p:=(op,kids)) hU.1
 rw[show({cB c k ns wt dp us with nodes:=ns++[(op,kids)],wt:=wt++[w],dp:=dp++[d]}:HS)=g from e]at bn
 generalize z:((mk g).set 8 (aO ((bE ns.length).map iD++[iD ns.length]))++[aO [iD ns.length]]).set 9 (aO ((bE ns.length).map (λi=>ak (16+2*i))++[ak (16+2*ns.length)]))=P at N bn
 have hl2:P.length=17+2*ns.length:=by rwa[<-z];simp[a];show gG ..
 generalize o:({cB c k (ns++[(op,kids)]) (wt++[w]) (dp++[d]) (us++[[]])with kn:=eE ns}:HS)=b at bn
 have s1:(P++[aO []])[1]?=(mk g++[])[1]? :=z▸Qx (a▸C9 _ (aQ rfl)) (aQ rfl) (aQ rfl)
 have Z:(P++[aO []])[14]?=(mk g++[])[14]? :=z▸Qx (a▸C9 _ (aQ rfl)) (aQ rfl) (aQ rfl)
 rw[g1]at s1
 rw[sG,show g.ab=(bE ns.length).map λi=>(iD i,ak (17+2*i)) by rwa[<-e];rfl]at Z
 show eA (Qp (ks:=kids) (bY ‹_› (br ..))) λL kN Qy hL3=>?_
 have hLl:L.length<=2:=aC (oJ hL3 λx Q=>(Qy x).mp Q) hk
 have K:b.up=bE (ns.length+1):=by rwa[<-o];simp[cB]
 have H:b.lots.length=ns.length+1:=by rwa[<-o];simp[cB]
 have afd:b.us=us++[[]]:=![<-o]
 have afe:b.ab=(bE (ns.length+1)).map λi=>(iD i,ak (17+2*i)):=by rwa[<-o];simp[cB]
 have A:b.nodes=ns++[(op,kids)]:=![<-o]
 have aff:b.kn=eE ns:=![<-o]
 have fnd:=afb (n:=n+3) (J:=[]) (op:=op) (h:=b) K (σ:=mk b) (![eM]) (kids:=kids) (λx Q=>by have:=y x Q;show jQ ‹_›) (o3:=aa (iD ns.length)) (o4:=ae)
 obtain⟨o4,u',lp,hu1,Qz⟩:=afa (n:=n+5) (J:=[]) (op:=op) (kids:=kids) (h:=b) H afe L (us++[[]]) (3*ns.length) ae (λx Q=>y x ((Qy x).mp Q)) (by simp[hU.1]) (by lia) (λl hl=>by
  rcases d9.mp hl with q|q
  .show ⟨(hU.2 l q).1,λd hd=>by show bR ((hU.2 l q).2 d hd) λj g b=>?_;show⟨j,jQ ‹_›,b⟩⟩
  .rwa [bI.mp q];show⟨br ..,λX h=>aF h bc⟩)
 rw[show({b with us:=us++[[]]}:HS)=b by rwa[<-afd]]at lp
 simp only[eM]at lp
 generalize I:({b with us:=u'}:HS)=u at lp
 have s:u.up=bE (ns.length+1):=by rwa[<-I];show K
 have B:u.nodes=ns++[(op,kids)]:=by rwa[<-I];show A
 have t:u.kn=eE ns:=by rwa[<-I];show aff
 have Bm:kids.map u.cl=kids:=by
  have:∀x∈kids,u.cl x=x:=λx Q=>ae8 s (by have:=y x Q;show jQ ‹_›)
  rwa[fN this,Dz]
 have M:cw u.kn (a9 (op,kids))=ae:=by rwa[t];unfold cw;rwa[B5 hm];rfl
 have la:=Qq (n:=n+1) (h:=u) (J:=[]) (i:=ns.length) (p:=(op,kids)) (by rwa[s];show Qu) (by rwa[B];simp) (by rwa[s];simp) (λx Q=>by rwa[s];have:=y x Q;simp;show jQ ‹_›) (by show kids.length<=10;show aC ‹_› (aQ rfl)) (by rwa[t];show xZ ns) (by rwa[t];simp[eE];show bY ‹_› (br ..)) (by
  show∀v,cw u.kn (a9 (op,kids.map u.cl))=aa v->_
  rwa[Bm,M];intro v hv;cases hv)
 simp only[Bm,eM]at la
 have afg:({u with kn:=l7 u ns.length (op,kids)}:HS)=cB c k (ns++[(op,kids)]) (wt++[w]) (dp++[d]) u':=by
  have:l7 u ns.length (op,kids)=eE (ns++[(op,kids)]):=by
   unfold l7
   rwa[M]
   dsimp only
   rwa[t,Ql]
   unfold cp
   rwa[B5 hm]
  rwa[this,<-I,<-o]
  rfl
 rw[afg]at la
 show⟨wt++[w],dp++[d],u',by simp[hw],by simp[hd],⟨by rwa[hu1];simp,λl hl=>⟨by have:=(Qz l hl).1;simp;lia,λd hd=>by show bR ((Qz l hl).2 d hd) λj g b=>?_;show⟨j,by simp;assumption,b⟩⟩⟩,?_⟩
 have hi:∀h':HS,(mk h')[1]?=aa (cz 446 [(8,ak 2),(9,ak 7),(10,ak 11),(11,ak 12),(12,ak 13),(5,ak 14),(13,ak 15)]):=λX=>rfl
 have hc:446∈lN:=aQ rfl
 show dw (r:=aa (iD ns.length)) (ρ':=pC op kids (aa (iD ns.length)) o4) (by rfl) rfl rfl rfl rfl rfl ?_
 show ba tb (run (n+5)) wY (pC op kids ae ae) _=_
 unfold wY
 show d8 (c9 (at_of rfl (hi _) hc rfl) (dD (show(mk (cB c k ns wt dp us))[2]?=aa (cz 198 [(0,ak 3),(1,ak 4),(2,ak 5),(3,ak 6)])from rfl)) (f:=122) rfl (b8 (aB rfl) (bb (aB rfl))) tk) ?_
 show de (fb (aB rfl) (c9 (at_of rfl (hi _) hc rfl) (dD q7) (f:=266) rfl fK sz) (r:= aM ah) ?_) ?_
 .show ac4 (cq _)
 show gA (c9 (at_of rfl (hi _) hc rfl) (dD q7) (f:=259) rfl fK N) ?_
 show fw (Bq fK) (iP (qC (m:=14) (at_of rfl s1 hc rfl) (aB rfl) Z (Qv _ _ _) (by simp;show bY ‹_› (br ..))) ?_) (σ2:=mk b) (ρ':=pC op kids (aa (iD ns.length)) ae) ?_
 .rwa [hl2,<-bn]
  unfold cp
  rwa[show(cB c k ns wt dp us).nodes.length=ns.length from rfl,ae9]
  rfl
 show(kP (b6 (d4 (r:= ay (L.map iD)) fnd (Hr rfl kN)) rfl) lp).trans ?_
 show gA (c9 (aB rfl) (dD (hi _)) (f:=363) rfl (bb (aB rfl)) la) (di (aB rfl))
theorem afh(o:kids.length<=2)(j:(op,kids)∈ns):∃i,ns[i]?=W (op,kids)/\run (n+2) 351 [ak 1,sD op,aw (kids.map iD)] (mk (cB c k ns wt dp us))=W (iD i,mk (cB c k ns wt dp us)):=by
 show aV (aeZ (n:=n) (h:=cB c k ns wt dp us) (J:=[]) (op:=op) (kids:=kids) (by lia) j) λi a b=>?_
 have l:i<ns.length:=(cD.mp a).1
 have d:=PJ (n:=n) (h:=cB c k ns wt dp us) (J:=[])
 simp only[eM,cB,gI]at d b
 show⟨i,a,?_⟩
 have e:∀m:HS,(mk m)[1]?=W (cz 446 [(8,ak 2),(9,ak 7),(10,ak 11),(11,ak 12),(12,ak 13),(5,ak 14),(13,ak 15)]):=λz=>rfl
 have g:446∈lN:=aQ rfl
 show dw (r:=W (iD i)) (ρ':=pC op kids (W (iD i)) N) (by rfl) rfl rfl rfl rfl rfl ?_
 show ba tb (run (n+1)) wY (pC op kids N N) _=_
 unfold wY
 show d8 (c9 (at_of rfl (e _) g rfl) (dD (show(mk (cB c k ns wt dp us))[2]?=W (cz 198 [(0,ak 3),(1,ak 4),(2,ak 5),(3,ak 6)])from rfl)) (f:=122) rfl (b8 (aB rfl) (bb (aB rfl))) b) ?_
 show mX (fb (aB rfl) (c9 (at_of rfl (e _) g rfl) (dD (show(mk (cB c k ns wt dp us))[7]?=W (cz 316 [(5,ak 8),(6,ak 9),(7,ak 10)])from rfl)) (f:=266) rfl fK d) ?_) (di (aB rfl))
 show Pk (by assumption)
end
structure Ty where
 T:Th
 cn:Nat
 ops:List (String×Nat)
 leaf:String
 ws:List (D×D)
 rf:Nat
 fR:List D
noncomputable def bD(b:Bool):D:= aM b
def u7:Ty:=⟨qF,557,[("and",2),("or",2),("not",1),("imp",2)], "true",[(bD Y,bD Y),(bD Y,bD U),(bD U,bD Y),(bD U,bD U)],549,w9⟩
def QA(m:Int):Ty:=⟨l5 m,531,[("add",2),("mul",2),("neg",1)], "0",[(aq 0,aq 1),(aq 1,aq 1),(aq 1,aq 0),(aq (m-1),aq 1)],523,oX m⟩
def B7:Ty:=⟨lk,583,[("app",2),("rev",1),("cons",2)], "nil",[(aw [sD "p"],aw [sD "q",sD "p"]),(aw [],aw [sD "p"])],575,uA⟩
def B8:Ty:=⟨mZ,616,[("union",2),("meet",2),("not",1),("less",2)], "all",[(aq 0,aq 1),(aq 1,aq 2),(aq 3,aq 1),(aq 2,aq 2)],608,xa⟩
structure Ty.Ok (Y:Ty):Prop where
 ok:Y.T.Ok
 self:∃al,Y.T.self= bh Y.cn al
 val:rU Y.cn "value" =aa Y.T.f
 x6:rU Y.cn "rules" =aa Y.rf
 fR:∀n σ,run (n+12) Y.rf [Y.T.self] σ=aa (ay Y.fR,σ)
 pj:uY Y.fR=af
 pats:uV Y.fR=af
 sound:∀p∈patsOf Y.fR,pz Y.T p
 x7:0<Y.ops.length/\Y.ops.length<10
 pn:∀p∈Y.ops,p.1∈qu/\(p.2=1\/p.2=2)
 lf:Y.leaf∈qu/\Y.leaf≠ "x" /\Y.leaf≠ "y"
 m5:(Y.T.v0 Y.leaf).isSome=af/\Y.T.v0 "x" =ae/\Y.T.v0 "y" =ae
 x8:∀op k a,(op,1)∈Y.ops->Y.T.cm k a->(Y.T.v1 op a).isSome=af
 x9:∀op k a b,(op,2)∈Y.ops->Y.T.cm k a->Y.T.cm k b->(Y.T.v2 op a b).isSome=af
 wd:∀w∈Y.ws,Y.T.cm 1 w.1/\Y.T.cm 1 w.2
 wl:Y.ws.length<=10
 eq:∀x y:List D,(∀d∈x,Y.T.cm 12 d)->(∀d∈y,Y.T.cm 12 d)->cG (ay x) (ay y)=aa (aK (x=y))
 ne:Y.ws.map (·.1)≠Y.ws.map (·.2)/\(∀v,Y.T.v0 Y.leaf=aa v->Y.ws.map (·.1)≠Y.ws.map (λz=>v)/\Y.ws.map (·.2)≠Y.ws.map (λz=>v))
theorem allM{P:b->Prop}(h:HE P l):∀a∈l,P a:=λz m=>uW m h
theorem B9(h:∀d∈z,d.bF=U/\d.kd<=k):D.bT z=U/\D.du z<=k:=by
 induction z with
 |nil=>show⟨rfl,cQ _⟩
 |cons a r e=>
  have b:=h a (a7 ..)
  have c:=e λd f=>h d (bq _ f)
  show⟨dN b.1 c.1,jR.mpr ⟨b.2,c.2⟩⟩
theorem QB(a:∀d∈x,d.bF=U/\d.kd<=40)(b:∀d∈y,d.bF=U/\d.kd<=40):cG (ay x) (ay y)=W (I (x=y)) :=
 BN (B9 a).1 (B9 b).1 (P (B9 a).2 (br ..)) (P (B9 b).2 (br ..))
theorem kI{z:List D}{P:Int->Prop}(h:∀d∈z,∃i,d= aq i/\P i)(d:D)(m:d∈z):d.bF=U/\d.kd<=40:=by
 show bR (h d m) λi a y=>?_;clear m;obtain rfl:=a
 show⟨rfl,cQ _⟩
theorem eq_int{P:Int->Prop}(a:∀d∈x,∃i,d= aq i/\P i)(b:∀d∈y,∃i,d= aq i/\P i):cG (ay x) (ay y)=W (I (x=y)):=QB (kI a) (kI b)
theorem QC(h:∀d∈z,∃i,d= aM i):∃l:List Bool,z=l.map aM/\D.fY z=W (l.map kX)/\pW (l.map kX)<=1:=by
 induction z with
 |nil=>show⟨[],rfl,rfl,cQ _⟩
 |cons a r e=>
  obtain⟨i,rfl⟩:=h a (a7 ..)
  show k0 (e λd b=>h d (bq _ b)) λl c f b=>?_;clear e h;obtain rfl:=c
  show⟨i::l,rfl,?_,jR.mpr ⟨cQ _,b⟩⟩
  show(match(aM i).py,D.fY (l.map aM)with|some x,W y=>W (x::y)|_,_=>N)=_
  rwa[f];rfl
theorem afi(l:List Bool):∀m:List Bool,tx (l.map kX) (m.map kX)=I (l.map aM=m.map aM):=by
 induction l with
 |nil=>intro m;induction m using bH<;>rfl
 |cons a r c=>
  intro m
  induction m using bH with
  |nil=>rfl
  |cons b q=>
   show(pX (kX a) (kX b)&&tx (r.map kX) (q.map kX))=_
   rwa[c q]
   induction a<;>induction b<;>(first|rfl|simp[pX])
theorem eq_bool(b:∀d∈x,∃i,d= aM i)(c:∀d∈y,∃i,d= aM i):cG (ay x) (ay y)=W (I (x=y)):=by
 show k0 (QC b) λl a e f=>?_;clear b;obtain rfl:=a
 show k0 (QC c) λm a g h=>?_;clear c;obtain rfl:=a
 show(match(D.fY (l.map aM)).map wc,(D.fY (m.map aM)).map wc with|some p,W q=>if zy p<=60/\zy q<=60 then W (pX p q)else N|_,_=>N)=_
 rwa[e,g]
 show(if pW (l.map kX)+1<=60/\pW (m.map kX)+1<=60 then W (tx (l.map kX) (m.map kX))else N)=_
 rwa[aJ ⟨P (ek f) (br ..),P (ek h) (br ..)⟩,afi]
noncomputable def H6(P:String->Prop)(n:Nat):List (String×Nat)->Prop
 |[]=>True
 |p::l=>(p.2==n).rec (H6 P n l) (P p.1/\H6 P n l)
theorem qM{P:String->Prop} :H6 P n l->(a,n)∈l->P a:=by
 induction l with
 |nil=>showλz h=>aF h bc
 |cons p l c=>
  obtain⟨o,k⟩:=p
  show Bool.rec _ _ (k==n)->_
  intro h m
  cases m with
  |head=>rw[beq_self_eq_true]at h;show h.1
  |tail _ m=>
   generalize e:(k==n)=b;induction b<;>rw[e]at h
   .show c h m
   .show c h.2 m
noncomputable def ya:List (String×Nat):=[("add",2),("mul",2),("neg",1)]
theorem afj: "0" ∈qu/\ "0" ≠ "x" /\ "0" ≠ "y" :=aQ rfl
theorem afk:∀p∈ya,p.1∈qu/\(p.2=1\/p.2=2):=aQ rfl
theorem afl:u7.Ok where
 ok:=okT
 self:=⟨[],rfl⟩
 val:=by kernel_rfl
 x6:=by kernel_rfl
 fR:=VK
 pj:=adN
 pats:=adp
 sound:=adv
 x7:=aQ rfl
 pn:=aQ rfl
 lf:=aQ rfl
 m5:=⟨rfl,rfl,rfl⟩
 x8 c k a d f:=by
  show gu a f λb=>?_
  show qM (l:=u7.ops) (P:=λc=>(qF.v1 c (aM b)).isSome=U) (n:=1) ⟨rfl,trivial⟩ d
 x9 c k a b d f g:=by
  obtain⟨a,rfl⟩:=f
  obtain⟨b,rfl⟩:=g
  show qM (l:=u7.ops) (P:=λc=>(qF.v2 c (aM a) (aM b)).isSome=U) (n:=2) ⟨rfl,rfl,rfl,trivial⟩ d
 wd:=allM ⟨⟨⟨_,rfl⟩,⟨_,rfl⟩⟩,⟨⟨_,rfl⟩,⟨_,rfl⟩⟩,⟨⟨_,rfl⟩,⟨_,rfl⟩⟩,⟨⟨_,rfl⟩,⟨_,rfl⟩⟩,trivial⟩
 wl:=br ..
 eq x y h i:=eq_bool h i
 ne:=⟨by decide,λv e=>by cases e;decide⟩
theorem afm{m:Int}(c:m=2\/m=3):(QA m).Ok where
 ok:=okR c
 self:=⟨[(18,aq m)],rfl⟩
 val:=by kernel_rfl
 x6:=by kernel_rfl
 fR n i:=by rcases c with rfl|rfl;show VL n i;show VM n i
 pj:=by rcases c with rfl|rfl;show adO;show adP
 pats:=by rcases c with rfl|rfl;show adq;show ads
 sound:=by rcases c with rfl|rfl;show adw;show adx
 x7:=(by decide:0<ya.length/\ya.length<10)
 pn:=afk
 lf:=afj
 m5:=⟨rfl,rfl,rfl⟩
 x8 d k a f g:=by
  obtain⟨a,rfl,w⟩:=g
  show qM (P:=λd=>((l5 m).v1 d (aq a)).isSome=U) (n:=1) (l:=ya) ⟨rfl,trivial⟩ f
 x9 d k a b f g j:=by
  obtain⟨a,rfl,w⟩:=g
  obtain⟨b,rfl,w⟩:=j
  show qM (P:=λd=>((l5 m).v2 d (aq a) (aq b)).isSome=U) (n:=2) (l:=ya) ⟨rfl,rfl,trivial⟩ f
 wd:=by
  have h:0<=m-1/\m-1<m/\1<m/\0<m:=c.elim (λe=>by rwa[e];decide) λe=>by rwa[e];decide
  have z:(l5 m).cm 1 (aq 0):=⟨0,rfl,p0 _,h.2.2.2⟩
  have o:(l5 m).cm 1 (aq 1):=⟨1,rfl,by decide,h.2.2.1⟩
  show allM ⟨⟨z,o⟩,⟨o,o⟩,⟨o,z⟩,⟨⟨_,rfl,h.1,h.2.1⟩,o⟩,trivial⟩
 wl:=(by decide:4<=10)
 eq x y p q:=eq_int p q
 ne:=⟨λe=>aF (jG e).1 (aQ rfl),λv e=>by
  cases e
  show⟨λe=>aF (jG (jG e).2).1 (aQ rfl),λe=>aF (jG e).1 (aQ rfl)⟩⟩
theorem afn:B7.Ok where
 ok:=okL
 self:=⟨[],rfl⟩
 val:=by kernel_rfl
 x6:=by kernel_rfl
 fR:=VN
 pj:=adQ
 pats:=adt
 sound:=adA
 x7:=aQ rfl
 pn:=aQ rfl
 lf:=aQ rfl
 m5:=⟨rfl,rfl,rfl⟩
 x8 c k a f g:=by
  show ee a g λb z=>?_
  show qM (l:=B7.ops) (P:=λc=>(lk.v1 c (aw b)).isSome=U) (n:=1) ⟨rfl,trivial⟩ f
 x9 c k a b f g j:=by
  show ee a g λa z=>?_
  show ee b j λb z=>?_
  show qM (l:=B7.ops) (P:=λc=>(lk.v2 c (aw a) (aw b)).isSome=U) (n:=2) ⟨rfl,rfl,trivial⟩ f
 wd:=allM (P:=λw:D×D=>lk.cm 1 w.1/\lk.cm 1 w.2) ⟨⟨⟨_,rfl,by decide⟩,⟨_,rfl,by decide⟩⟩,⟨⟨_,rfl,by decide⟩,⟨_,rfl,by decide⟩⟩,trivial⟩
 wl:=br ..
 eq x y o p :=
  have h:∀d,lk.cm 12 d->d.bF=U/\d.kd<=40:=λz h=>by
   show zZ h λl i q r z=>?_;obtain rfl:=i
   show⟨q,aC (ek r) (br ..)⟩
  QB (λd m=>h d (o d m)) (λd m=>h d (p d m))
 ne:=⟨by decide,λv e=>by cases e;decide⟩
theorem afo:B8.Ok where
 ok:=okS
 self:=⟨[(19,aq 3)],rfl⟩
 val:=by kernel_rfl
 x6:=by kernel_rfl
 fR:=VO
 pj:=adR
 pats:=adu
 sound:=ady
 x7:=aQ rfl
 pn:=aQ rfl
 lf:=aQ rfl
 m5:=⟨rfl,rfl,rfl⟩
 x8 c k a d f:=by
  show ee a f λb z=>?_
  show qM (l:=B8.ops) (P:=λc=>(mZ.v1 c (aq b)).isSome=U) (n:=1) ⟨rfl,trivial⟩ d
 x9 c k a b d f g:=by
  obtain⟨a,rfl,z⟩:=f
  obtain⟨b,rfl,z⟩:=g
  show qM (l:=B8.ops) (P:=λc=>(mZ.v2 c (aq a) (aq b)).isSome=U) (n:=2) ⟨rfl,rfl,rfl,trivial⟩ d
 wd:=by
  have h:∀i:Int,0<=i/\i<=3->mZ.cm 1 (aq i):=λi h=>⟨i,rfl,h⟩
  show allM (P:=λw:D×D=>mZ.cm 1 w.1/\mZ.cm 1 w.2) ⟨⟨h _ (aQ rfl),h _ (aQ rfl)⟩,⟨h _ (aQ rfl),h _ (aQ rfl)⟩,⟨h _ (aQ rfl),h _ (aQ rfl)⟩,⟨h _ (aQ rfl),h _ (aQ rfl)⟩,trivial⟩
 wl:=br ..
 eq x y j m:=eq_int j m
 ne:=⟨by decide,λv e=>by cases e;decide⟩
theorem afp(h:∀p∈l,p.2.bF=U):nO f l=W l:=by
 induction l with
 |nil=>rfl
 |cons p r i=>show(nN f p.2).bind _=_;rwa[HM (h p (a7 ..)),c5,i λq a=>h q (bq _ a)];rfl
theorem u9{a:St}{k m n:Nat}{o:O}(b:¬n<k)(h:a[n]?=W o):eZ a k (m+1) n=(match(generalizing:=false) o with|.list l=>(kG (eZ a k m) l).map ay|.dict l=>(qk (eZ a k m) l).map dG|.inst C l=>(nO (eZ a k m) l).map (bh C)):=by
 show(aL b).trans ?_
 rwa[h];clear h;induction o<;>rfl
theorem QD{C:Nat}(h:∀p∈l,p.2.bF=U):iU a (ak a.length) (a++[cz C l])=W (bh C l,a):=by
 unfold iU
 rwa[aJ (JB rfl)]
 show(eZ (a++[cz C l]) a.length 4 a.length).map _=_
 rwa[u9 (cq _) JC]
 show((nO _ l).map _).map _=_
 rwa[afp h];rfl
section
variable{cal:mH}{ρ:Fm}{σ σ1 σ2 σ3:St}{d:D}
theorem H7{C f:Nat}(h:ec tb cal l ρ σ=W (a,σ1))(b:Fd C=W (W f))(g:cal f (ak σ1.length::a) (σ1++[cz C []])=W (cg,σ2))(k:iU σ1 (ak σ1.length) σ2=W (d,σ3)):ev tb cal (oR C U l) ρ σ=W (d,σ3):=by
 rwa[V0,h,c5]
 show(Fd C).bind _=_
 rwa[b,c5]
 show(cal f (ak σ1.length::a) (σ1++[cz C []])).bind _=_
 rwa[g];show k
end
section
variable{n:Nat}{ρ:Fm}{σ:St}
theorem afq(h:ρ[2]?=W (W (iD m))):ev tb (run (n+1)) (oR 531 U (aS (ax 2) aT)) ρ σ=W (gB m,σ):=by
 show H7 (bb (aB h)) rfl (σ2:=σ++[cz 531 [(18,iD m)]]) ?_ (QD λp a=>![bI.mp a])
 show dw (r:=N) (ρ':=[W (ak σ.length),W (iD m)]) (by rfl) rfl rfl rfl rfl rfl ?_
 show ba tb (run n) E0 [W (ak σ.length),W (iD m)] _=_
 unfold E0
 show fw (aB rfl) (Hq (aB rfl) (L:=[]) (C:=531) (by simp) (dm _) (aQ rfl)) ?_
 rwa[eI]
 rwa[zl _ _ (bG _),jC];rfl
theorem afr:ev tb (run (n+1)) (oR 616 U (aS (dI 2) aT)) ρ σ=W (bh 616 [(19,aq 3)],σ):=by
 show H7 (bb cE) rfl (σ2:=σ++[cz 616 [(19,aq 3)]]) ?_ (QD (aQ rfl))
 show dw (r:=N) (ρ':=[W (ak σ.length),W (aq 2)]) (by rfl) rfl rfl rfl rfl rfl ?_
 show ba tb (run n) E4 [W (ak σ.length),W (aq 2)] _=_
 unfold E4
 show fw (d:= aq 3) (by rfl) (Hq (aB rfl) (L:=[]) (C:=616) (by simp) (dm _) (aQ rfl)) ?_
 rwa[eI]
 rwa[zl _ _ (bG _),jC];rfl
end
def yb(Y:Ty):D:= aw [Y.T.self,ay (Y.ops.map λp=> aw [sD p.1,iD p.2]),sD Y.leaf,ay (Y.ws.map λw=> aw [w.1,w.2])]
theorem afs(n:Nat)(L:List Int):∃a:Ty,a.Ok/\run (n+3) 634 [ak 0] [eS L 0]=W (yb a,[eS L 2]):=by
 show aV (xX (n:=n+1) (k:=0) (w:=4) (L:=L) (σ:=[eS L 0]) rfl (cQ _) (dm _)) λv t p=>?_
 show aV (xX (n:=n+1) (k:=1) (w:=2) (L:=L) (σ:=[eS L 1]) rfl (dm _) (dm _)) λu A x=>?_
 have b:∀q,ba tb (run (n+2)) (match oU with|.cons _ l=>l|l=>l) [W (ak 0),W (iD v),W (iD (2+u)),N,N,N,N,N,N] [eS L 2]=q->ba tb (run (n+2)) oU [W (ak 0),N,N,N,N,N,N,N,N] [eS L 0]=q:=λq s=>by
  unfold oU at s |-
  show fw (eD (b8 (jr (b8 (aB rfl) (bb (d:=iD 4) cE)) p) (bb (et cE (jr (b8 (aB rfl) (bb (d:=iD 2) cE)) x) (r:=iD (2+u)) rfl)))) rfl s
 have c:∀a:Ty,a.Ok->(∃ρ',ba tb (run (n+2)) (match oU with|.cons _ l=>l|l=>l) [W (ak 0),W (iD v),W (iD (2+u)),N,N,N,N,N,N] [eS L 2]=W (W (yb a),ρ',[eS L 2]))->∃a:Ty,a.Ok/\run (n+3) 634 [ak 0] [eS L 0]=W (yb a,[eS L 2]):=λa y ⟨ρ',e⟩ =>
  ⟨a,y,dw (r:=W (yb a)) (ρ':=ρ') (by rfl) rfl rfl rfl rfl rfl (b _ e)⟩
 have f:∀(i j:Nat)(g:Fm)(σ:St),g[1]?=W (W (iD i))->ev tb (run (n+2)) (dR dh (ax 1) (dI (j:Nat))) g σ=W (aM (I ((i:Int)=j)),σ):=λi j g σ h=>fb (aB h) cE (by show(cG (aq i) (aq j)).map aM=_;rwa[VP];rfl)
 have m:v=0\/v=1\/v=2\/v=3:=(aQ rfl:∀k:Fin 4,k.1=0\/k.1=1\/k.1=2\/k.1=3) ⟨v,by assumption⟩
 clear b t p;rcases m with rfl|rfl|rfl|rfl
 .show c u7 afl ⟨[W (ak 0),W (iD 0),W (iD (2+u)),W (ay (u7.ws.map λw=> aw [w.1,w.2])),N,N,N,N,N],?_⟩
  unfold oU
  dsimp only
  show mX (f 0 0 _ _ rfl) (d8 (d:= ay (u7.ws.map λw=> aw [w.1,w.2])) (by rfl) (di ?_))
  rfl
 .have z:2+u=2\/2+u=3:=(aQ rfl:∀k:Fin 2,2+k.1=2\/2+k.1=3) ⟨u,by assumption⟩
  have o:((2+u:Nat):Int)=2\/((2+u:Nat):Int)=3:=z.imp (aI Int.ofNat) (aI Int.ofNat)
  show c (QA ((2+u:Nat):Int)) (afm o) ⟨[W (ak 0),W (iD 1),W (iD (2+u)),N,N,N,N,N,N],?_⟩
  unfold oU
  dsimp only
  show de (f 1 0 _ _ rfl) (mX (f 1 1 _ _ rfl) (di (eD (b8 (afq rfl) (b8 (by rfl) (b8 (by rfl) (bb ?_)))))))
  show n7 (b8 (by rfl) (b8 (by rfl) (b8 (by rfl) (bb (eD (b8 (et (aB rfl) cE rfl) (bb cE)))))))
 .show c B7 afn ⟨[W (ak 0),W (iD 2),W (iD (2+u)),N,N,N,N,N,N],?_⟩
  unfold oU
  dsimp only
  show de (f 2 0 _ _ rfl) (de (f 2 1 _ _ rfl) (mX (f 2 2 _ _ rfl) (di ?_)))
  rfl
 .show c B8 afo ⟨[W (ak 0),W (iD 3),W (iD (2+u)),N,N,N,N,N,N],?_⟩
  unfold oU
  dsimp only
  show de (f 3 0 _ _ rfl) (de (f 3 1 _ _ rfl) (de (f 3 2 _ _ rfl) (di (eD (b8 afr ?_)))))
  rfl
structure Bs (Y:Ty) (m:Nat) (ns:List (String×List Nat)) (wt dp:List Int) (us:List (List D)):Prop where
 rest:∃rest,ns=("x",[])::("y",[])::(Y.leaf,[])::rest/\(∀p∈rest,(p.1,p.2.length)∈Y.ops)/\rest.length<=m
 nd:ns.Nodup
 low:∀(i:Nat)(p:String×List Nat),ns[i]?=aa p->∀x∈p.2,x<i
 wl:wt.length=ns.length
 dl:dp.length=ns.length
 ul:H4 ns.length us
theorem Bs.len(B:Bs a m b wt dp us):3<=b.length/\b.length<=3+m:=by
 show eA (B.rest) λr e z h=>?_
 rwa[e];simp only[fC];lia
def gT(Y:Ty)(a o6 o7 o8 o9 o10 o11:Option D):Fm:=[W (ak 0),W Y.T.self,W (ay (Y.ops.map λp=> aw [sD p.1,iD p.2])),W (sD Y.leaf),W (ay (Y.ws.map λw=> aw [w.1,w.2])),a,o6,o7,o8,o9,o10,o11,N,N,N,N,N]
section
variable{n:Nat}{L:List Int}{Y:Ty}
theorem sH(h:HS):(mk h)[1]?=W (cz 446 [(8,ak 2),(9,ak 7),(10,ak 11),(11,ak 12),(12,ak 13),(5,ak 14),(13,ak 15)]):=rfl
theorem aft{a:Fm}:ev tb (run (n+3)) (oR 446 ah aT) a [eS L 2]=W (ak 1,mk (cB (L.map aq) 2 [] [] [] [])):=![]
theorem QE :(mk (cB (L.map aq) k a wt dp us)).set 0 (eS L (k+1))=mk (cB (L.map aq) (k+1) a wt dp us):=rfl
theorem afu(a:Y.Ok) :∃wt dp us,Bs Y 0 [("x",[]),("y",[]),(Y.leaf,[])] wt dp us/\∃o6,loopGo (λd b o=>(dY (bt 6) d b).bind λb=>ba tb (run (n+6)) (cZ (.ex (dB "add" (ax 5) (aS (ax 6) (aS (e0 aT) aT)))) c7) b o) [sD "x",sD "y",sD Y.leaf]
 (gT Y (aa (ak 1)) ae o7 o8 o9 o10 o11) (mk (cB (L.map aq) 2 [] [] [] []))=aa (ae,gT Y (aa (ak 1)) o6 o7 o8 o9 o10 o11,mk (cB (L.map aq) 2 [("x",[]),("y",[]),(Y.leaf,[])] wt dp us)):=by
 show kZ (B6 (n:=n) (c:=L.map aq) (k:=2) (ns:=[]) (wt:=[]) (dp:=[]) (us:=[]) (op:= "x") (kids:=[]) (aQ rfl) (cQ _) (cQ _) (aQ rfl) (by simp) rfl rfl ⟨rfl,by decide⟩) λq s t u v w y=>?_
 show kZ (B6 (n:=n) (c:=L.map aq) (k:=2) (ns:=[("x",[])]) (wt:=q) (dp:=s) (us:=t) (op:= "y") (kids:=[]) (aQ rfl) (cQ _) (by simp) (aQ rfl) (aQ rfl) u v w) λz A B Q H I J=>?_
 show kZ (B6 (n:=n) (c:=L.map aq) (k:=2) (ns:=[("x",[]),("y",[])]) (wt:=z) (dp:=A) (us:=B) (op:=Y.leaf) (kids:=[]) a.lf.1 (by simp) (by simp) (by simp) (by simp[a.lf.2.1,a.lf.2.2]) Q H I) λK M N P U V W=>?_
 show⟨K,M,N,⟨⟨[],rfl,by simp,by simp⟩,?_,?_,P,U,V⟩,aa (sD Y.leaf),?_⟩
 .have Z:=a.lf.2.1
  simp[Z.symm,a.lf.2.2.symm]
 .intro i p m x g
  have:p.2=[]:=by
   have:=cN m
   simp at this
   clear m g;rcases this with rfl|rfl|rfl<;>rfl
  rw[this]at g;simp at g
 .have j:∀(e:String)(o6:Option D)(h l:HS)(i:Nat),run (n+6) 351 [ak 1,sD e,aw []] (mk h)=aa (iD i,mk l)->((dY (bt 6) (sD e) (gT Y (aa (ak 1)) o6 o7 o8 o9 o10 o11)).bind λb=>ba tb (run (n+6)) (cZ (.ex (dB "add" (ax 5) (aS (ax 6) (aS (e0 aT) aT)))) c7) b (mk h))=aa (ae,gT Y (aa (ak 1)) (aa (sD e)) o7 o8 o9 o10 o11,mk l):=λe o6 h l i r=>
   gA (c9 (aB rfl) (dD (sH h)) (f:=351) rfl (b8 (aB rfl) (bb (eD fK))) r) eI
  show iE (j _ _ _ _ _ y) (iE (j _ _ _ _ _ J) (iE (j _ _ _ _ _ W) rfl))
theorem draws(r:b.length=a)(j:0<a)(F:D->St->Option (Option D×St))(l:∀d k v,run (n+2) 627 [ak 0,iD a] (mk (cB (L.map aq) k b wt dp us))=W (iD v,mk (cB (L.map aq) (k+1) b wt dp us))->F d (mk (cB (L.map aq) k b wt dp us))=W (W (iD v),mk (cB (L.map aq) (k+1) b wt dp us)))(f:List D):∀(k:Nat),k+f.length<=100 ->
 ∃c:List Nat,c.length=f.length/\(∀x∈c,x<a)/\nP F f (mk (cB (L.map aq) k b wt dp us))=W (c.map iD,mk (cB (L.map aq) (k+f.length) b wt dp us)):=by
 induction f with
 |nil=>showλk z=>⟨[],rfl,λz h=>aF h bc,rfl⟩
 |cons d f i=>
  intro k g
  show aV (xX (n:=n+1) (k:=k) (w:=a) (L:=L) (σ:=mk (cB (L.map aq) k b wt dp us)) rfl (P (ew ..) g) j) λv m e=>?_
  rw[QE]at e
  show eA (i (k+1) (P (bC (gG .. :k+1+f.length=k+(f.length+1))) g)) λc o p q=>?_
  show⟨v::c,aI (· +1) o,zg.mpr ⟨m,p⟩,?_⟩
  show(F d _).bind _=_
  rwa[l d k v e,c5,q,(gG .. :k+1+f.length=k+(f.length+1))]
  rfl
structure Hb where
 k:Nat
 ns:List (String×List Nat)
 wt:List Int
 dp:List Int
 us:List (List D)
def stH(L:List Int)(b:Hb):St:=mk (cB (L.map aq) b.k b.ns b.wt b.dp b.us)
noncomputable def Hb.Ok(Y:Ty)(m:Nat)(b:Hb):Prop:=Bs Y m b.ns b.wt b.dp b.us
noncomputable def yc:CS:=(cZ (jJ (iA [8,9]) (cK (ax 2) (f6 627 (aS (ax 0) (aS (fa dO (ax 2)) aT))))) (cZ (.ex (dB "add" (ax 5) (aS (ax 8) (aS (fa gM (eH ah [N,N,N,W 0,W 5] (bt 1) (nS (ax 9)) aT (f6 627 (aS (ax 3) (aS (dB "size" (ax 4) aT) aT))))) aT)))) c7))
theorem afv(P:Y.Ok)(B:Bs Y m g wt dp us)(hm:m<=3)(hk:k<=90):
 ∃(b:Hb)(U V:Option D),b.k<=k+3/\b.Ok Y (m+1)/\ba tb (run (n+8)) yc (gT Y (aa (ak 1)) o6 o7 o8 o9 o10 o11) (mk (cB (L.map aq) k g wt dp us))=aa (ae,gT Y (aa (ak 1)) o6 o7 U V o10 o11,stH L b):=by
 have hlen:=B.len
 show aV (xX (n:=n+7) (k:=k) (w:=Y.ops.length) (L:=L) (σ:=mk (cB (L.map aq) k g wt dp us)) rfl (aC ‹_› (aQ rfl)) P.x7.1) λv hv e=>?_
 rw[QE]at e
 rcases I:Y.ops[v]'hv with⟨A,l⟩
 have Q:Y.ops[v]?=aa (A,l):=![dn hv,I]
 have o:(A,l)∈Y.ops:=cN Q
 have W:l<=2:=by have:=(P.pn _ o).2;dsimp only at this;lia
 obtain⟨j,h1,h2,h3⟩:=draws (n:=n+6) (L:=L) (wt:=wt) (dp:=dp) (us:=us) rfl (show 0<g.length by lia) (λd σ=>(dY (bt 1) d [ae,ae,ae,aa (ak 0),aa (ak 1)]).bind λK=>(oQ tb (run (n+8)) aT K σ).bind λb=>if b.1 then(ev tb (run (n+8)) (f6 627 (aS (ax 3) (aS (dB "size" (ax 4) aT) aT))) K b.2).map λr=>(aa r.1,r.2)else aa (ae,b.2)) (λd k v e=>by
  have sz:=u0 (n:=n+6) (h:=cB (L.map aq) k g wt dp us) (J:=[])
  rw[eM]at sz
  show iP (aI (gj _) (jr (b8 (aB rfl) (bb (c9 (aB rfl) (dD (sH _)) (f:=341) rfl fK sz))) e:ev tb (run (n+8)) (f6 627 (aS (ax 3) (aS (dB "size" (ax 4) aT) aT))) [ae,aa d,ae,aa (ak 0),aa (ak 1)] (mk (cB (L.map aq) k g wt dp us))=aa (iD v,mk (cB (L.map aq) (k+1) g wt dp us)))) rfl) ((bE l).map λk=> aq (k:Nat)) (k+1) (by simp;lia)
 rw[bN,gI]at h1 h3
 have c:ev tb (run (n+8)) (eH ah [ae,ae,ae,aa 0,aa 5] (bt 1) (nS (ax 9)) aT (f6 627 (aS (ax 3) (aS (dB "size" (ax 4) aT) aT)))) (gT Y (aa (ak 1)) o6 o7 (aa (sD A)) (aa (iD l)) o10 o11) (mk (cB (L.map aq) (k+1) g wt dp us))=aa (ay (j.map iD),mk (cB (L.map aq) (k+1+l) g wt dp us)):=by
  show(fJ tb (run (n+8)) (nS (ax 9)) _ _).bind _=_
  rwa[qv (i:=l) (aB rfl) (bY ‹_› (aQ rfl))]
  show iP (aI (gj _) h3) rfl
 have M:∀i H s t z,run (n+8) 351 [ak 1,sD A,aw (j.map iD)] (mk (cB (L.map aq) (k+1+l) g wt dp us))=aa (iD i,mk (cB (L.map aq) (k+1+l) H s t z))->ba tb (run (n+8)) yc (gT Y (aa (ak 1)) o6 o7 o8 o9 o10 o11) (mk (cB (L.map aq) k g wt dp us))=aa (ae,gT Y (aa (ak 1)) o6 o7 (aa (sD A)) (aa (iD l)) o10 o11,mk (cB (L.map aq) (k+1+l) H s t z)):=λi H s t z r=>by
  unfold yc
  show fw (cX (r:= aw [sD A,iD l]) (aB rfl) (jr (b8 (aB rfl) (bb (d4 (r:=iD Y.ops.length) (aB rfl) ![lj rfl,bN]))) e) ?_) rfl ?_
  .show l0 (![dy,Q])
  .show gA (c9 (aB rfl) (dD (sH _)) (f:=351) rfl (b8 (aB rfl) (bb (d4 c rfl))) r) eI
 have N:k+1+l<=k+3:=(sX k 1 l)▸fh (fh W 1) k
 by_cases q:(A,j)∈g
 .show bR (afh (n:=n+6) (c:=L.map aq) (k:=k+1+l) (wt:=wt) (dp:=dp) (us:=us) (by lia) q) λi X r=>?_
  show eA (B.rest) λrest Z e2 e3=>?_
  show x3 ⟨_,g,wt,dp,us⟩ _ _ ⟨N,⟨⟨rest,Z,e2,gV e3⟩,B.nd,B.low,B.wl,B.dl,B.ul⟩,M i g wt dp us r⟩
 .show kZ (B6 (n:=n+2) (c:=L.map aq) (k:=k+1+l) (P.pn _ o).1 (by lia) (by lia) h2 q B.wl B.dl B.ul) λs t z a b cc r=>?_
  show eA (B.rest) λrest Z e2 e3=>?_
  show x3 ⟨_,_,s,t,z⟩ _ _ ⟨N,⟨⟨rest++[(A,j)],![Z],λp I=>?_,aC (bC cF) (ek e3)⟩,?_,?_,a,b,cc⟩,M _ _ _ _ _ r⟩
  .rcases d9.mp I with u|u
   .show e2 p u
   .rwa [bI.mp u];dsimp only;rwa[h1];show o
  .rwa [oq]
   show⟨B.nd,i9.mpr ⟨bc,kU⟩,λx hx y hy e=>q (bI.mp hy▸e▸hx)⟩
  .intro i p I x hx
   by_cases hi:i<g.length
   .show B.low i p (fB hi▸I) x hx
   .have:p=(A,j):=bI.mp (cN (mn (fi hi)▸I))
    rw[this]at hx
    show bg (h2 x hx) (fi hi)
theorem turns(l:Y.Ok)(ds:List D):∀(m:Nat)(b:Hb)(o7 o8 o9:Option D),b.Ok Y m->m+ds.length<=3->b.k+3*ds.length<=90 ->
 ∃(f:Hb)(a c e:Option D),f.k<=b.k+3*ds.length/\f.Ok Y 3/\loopGo (λd h o=>(dY (bt 7) d h).bind λh=>ba tb (run (n+8)) yc h o) ds (gT Y (W (ak 1)) o6 o7 o8 o9 o10 o11) (stH L b)=W (N,gT Y (W (ak 1)) o6 a c e o10 o11,stH L f):=by
 induction ds with
 |nil=>showλm b o7 o8 o9 B g i=>eA B.rest λrest p q r=>x4 b o7 o8 o9 ⟨bG _,⟨⟨rest,p,q,P r g⟩,B.nd,B.low,B.wl,B.dl,B.ul⟩,rfl⟩
 |cons d ds s=>
  intro m b o7 o8 o9 B g i
  rw[fC]at g i
  show oL (afv (n:=n) (L:=L) l B (P (ew ..) g) (P (ew ..) i) (o6:=o6) (o7:=W d) (o8:=o8) (o9:=o9) (o10:=o10) (o11:=o11)) λt j k u v w=>?_
  show KS (s (m+1) t (W d) j k v (by lia) (by lia)) λf a c e x y z=>?_
  show x4 f a c e ⟨by rwa[fC];lia,y,iE w z⟩
end
noncomputable def m7(c:String):List Pt->Pt
 |[]=> jt c
 |[a]=> ju c a
 |a::b::_=> fc c a b
theorem afw(a:String):∀{l:List Pt},l.length<=2->(m7 a l).toD= aw (sD a::l.map Pt.toD)
 |[],_=>rfl
 |[_],_=>rfl
 |[_,_],_=>rfl
 |_::_::_::_,h=>by show aJ ‹_›
noncomputable def vc(a:List (String×List Nat)):Nat->Nat->Pt
 |0,_=> jt ""
 |f+1,i=>match a[i]? with
  |some p=>m7 p.1 (p.2.map (vc a f))
  |none=> jt ""
def tm(a:List (String×List Nat))(i:Nat):Pt:=vc a (i+1) i
noncomputable def iT(a:List (String×List Nat)):Prop:=∀(i:Nat)(p:String×List Nat),a[i]?=W p->∀x∈p.2,x<i
theorem H8(a:List (String×List Nat))(f i:Nat):vc a (f+1) i=a[i]?.elim (jt "") λp=>m7 p.1 (p.2.map (vc a f)):=![]
theorem afx(b:iT a)(f:Nat):∀{i g:Nat},i<f->i<g->vc a f i=vc a g i:=by
 induction f with
 |zero=>showλh=>aF h (i7 _)
 |succ f j=>
  intro i g k c
  induction g using dS with
  |zero=>show aF c (i7 _)
  |succ g=>
   rwa[H8,H8]
   generalize d:a[i]?=o
   induction o with
   |none=>rfl
   |some p=>show aI (m7 p.1) (fN λx e=>j (bg (b i p d x e) (iL k)) (bg (b i p d x e) (iL c)))
theorem vd(b:iT a)(c:a[i]?=W p):tm a i=m7 p.1 (p.2.map (tm a)):=by
 show(H8 a i i).trans ?_
 rwa[c]
 show aI (m7 p.1) (fN λx d=>afx b i (b i p c x d) (dP x))
theorem afy(a:Nat){l:List Nat}:l.Pairwise (· <= ·)->(pA a l).Pairwise (· <= ·):=by
 induction l with
 |nil=>showλz=>ou.mpr ⟨λz h=>aF h bc,wo⟩
 |cons b r f=>
  intro h
  have c:=ou.mp h
  by_cases q:a<b
  .rwa [show pA a (b::r)=a::b::r from aJ q]
   show ou.mpr ⟨λx d=>(bB.mp d).elim (λe=>e▸eL q) λu=>P (eL q) (c.1 x u),h⟩
  .rwa [show pA a (b::r)=b::pA a r from aL q]
   show ou.mpr ⟨λx d=>(bB.mp ((PO a r).mem_iff.mp d)).elim (λe=>e▸fi q) λu=>c.1 x u,f c.2⟩
theorem afz(l:List Nat):(iG l).Pairwise (· <= ·):=by
 induction l with
 |nil=>show wo
 |cons a r b=>show afy a b
def lr(h:HS):D:= bh 198 [(0,ay (h.nodes.map a9)),(1,dG (eE h.nodes)),(2,ay (h.wt.map aq)),(3,ay (h.dp.map aq))]
theorem afA(h:∀p∈l,p.1.bF=U/\p.2.bF=U):qk f l=W l:=by
 induction l with
 |nil=>rfl
 |cons p r i=>
  have a:=h p (a7 ..)
  show(aJ a.1).trans (![HM a.2,c5,i λq b=>h q (bq _ b)])
theorem afB(l:List Int):D.bT (l.map aq)=U:=sq λd b=>by
 show bR (b3.mp b) λx z a=>?_;clear b;obtain rfl:=a;rfl
theorem Ca(h:f n=W x)(a:nO f r=W y):nO f ((k,ak n)::r)=W ((k,x)::y):=by
 show(f n).bind _=_
 rwa[h,c5,a];rfl
theorem afC :kG (eZ (mk h++a) 0 4) [ak 2,iD i]=W [lr h,iD i]:=by
 have f:kG (eZ (mk h++a) 0 2) (h.nodes.map a9)=W (h.nodes.map a9):=HN (sq λd c=>by
  show bR (b3.mp c) λx z b=>?_;clear c;obtain rfl:=b;show(qI x).1)
 have g:qk (eZ (mk h++a) 0 2) (eE h.nodes)=W (eE h.nodes):=afA λp j=>by
  show ct p (b3.mp j) λx z=>?_;show⟨(qI x.1).1,rfl⟩
 have e:∀l:List Int,kG (eZ (mk h++a) 0 2) (l.map aq)=W (l.map aq):=λl=>HN (afB l)
 have k:eZ (mk h++a) 0 3 3=W (ay (h.nodes.map a9)):=(u9 (aQ rfl) (@g3 h a)).trans (aI (gj ay) f)
 have m:eZ (mk h++a) 0 3 4=W (dG (eE h.nodes)):=(u9 (aQ rfl) (@g4 h a)).trans (aI (gj dG) g)
 have n:eZ (mk h++a) 0 3 5=W (ay (h.wt.map aq)):=(u9 (o:= aO (h.wt.map aq)) (aQ rfl) rfl).trans (aI (gj ay) (e _))
 have q:eZ (mk h++a) 0 3 6=W (ay (h.dp.map aq)):=(u9 (o:= aO (h.dp.map aq)) (aQ rfl) rfl).trans (aI (gj ay) (e _))
 have r:eZ (mk h++a) 0 4 2=W (lr h):=(u9 (aQ rfl) (@g2 h a)).trans (aI (gj (bh 198)) (Ca k (Ca m (Ca n (Ca q rfl)))))
 show((eZ (mk h++a) 0 4 2).bind _)=_
 rwa[r];rfl
section
variable{n:Nat}{h:HS}{σ:St}
theorem QF{c:Fm}(b:c[i]?=W (W (lr h))):ev tb a (dZ (ax i) 0) c σ=W (ay (h.nodes.map a9),σ):=si (aB b) (by rfl) (by rfl)
theorem QG(a:h.nodes[j]?=W p):hM (look σ (ay (h.nodes.map a9))) (iD j)=W (a9 p):=by
 show l0 (![dy,a])
theorem afD(a:h.nodes[j]?=W p):run (n+1) 155 [lr h,iD j] σ=W (sD p.1,σ):=by
 show dw (r:=W (sD p.1)) (ρ':=[W (lr h),W (iD j)]) (by rfl) rfl rfl rfl rfl rfl ?_
 show ba tb (run n) ER [W (lr h),W (iD j)] σ=_
 unfold ER
 show di (cX (cX (QF rfl) (aB rfl) (QG a)) cE rfl)
theorem QH(a:h.nodes[j]?=W p):run (n+1) 162 [lr h,iD j] σ=W (aw (p.2.map iD),σ):=by
 show dw (r:=W (aw (p.2.map iD))) (ρ':=[W (lr h),W (iD j)]) (by rfl) rfl rfl rfl rfl rfl ?_
 show ba tb (run n) Lu [W (lr h),W (iD j)] σ=_
 show di (qB (cX (QF rfl) (aB rfl) (QG a)) cE qD)
def d5(l:List Nat):List (D×D):=l.map λj=>(iD j,aM U)
theorem QI(l:List Nat)(i:Nat):keyOk (d5 l) (iD i)=U:=u3 (λp a=>jg (Q:=λp:D×D=>∃i,p.1=iD i) a λi z=>⟨i,rfl⟩) i
theorem QJ(l:List Nat)(i:Nat):(cW (d5 l) (iD i)).isSome=I (i∈l):=by
 have b:(d5 l).map (·.1)=l.map iD:=by unfold d5;rwa[dK];rfl
 generalize q:cW (d5 l) (iD i)=a;induction a with
 |none=>
  have:=tU q
  rw[b]at this
  rwa[ef λu=>this (ij u)];rfl
 |some j=>
  obtain⟨v,c⟩:=kF q
  have:iD i∈(d5 l).map (·.1):=ij (f:=(·.1)) (cN c)
  rw[b]at this
  show fW (this) λx d e=>?_
  rwa[dA (by rwa[<-j9 e];show d)];rfl
theorem afE(b:i∉l):cp (d5 l) (iD i) (aM U)=d5 (l++[i]):=by
 have:=QJ l i
 rw[ef b]at this
 unfold cp
 generalize q:cW (d5 l) (iD i)=a;induction a with
 |some j=>rw[q]at this;cases this
 |none=>simp[d5]
def jv(h:HS)(i:Nat)(a b c:Option D):Fm:=[W (lr h),W (iD i),W (ak 0),W (ak 1),a,b,c,N,N,N]
noncomputable def pD(s:List Nat×List Nat)(x:Nat):List Nat×List Nat:=if x∈s.1 then s else(s.1++[x],s.2++[x])
noncomputable def QK:CS:=(cZ (k7 (dR gY (ax 4) (ax 2)) (cZ (jJ (iz (ax 2) (ax 4)) (ql U)) (cZ (.ex (gL iC (ax 3) (aS (ax 4) aT))) c7)) c7) c7)
theorem afF(b:List Nat):∀(s:List Nat×List Nat)(e:Option D),s.1.length+b.length<900->s.2.length+b.length<900->∃a,loopGo (λd j σ=>(dY (bt 4) d j).bind λj=>ba tb (run n) QK j σ) (b.map iD) (jv h i e N N) [a8 (d5 s.1),aO (s.2.map iD)]=W (N,jv h i a N N,[a8 (d5 (b.foldl pD s).1),aO ((b.foldl pD s).2.map iD)]):=by
 induction b with
 |nil=>showλs e z z=>⟨e,rfl⟩
 |cons x b c=>
  intro s e f g
  rw[fC]at f g
  have t:ev tb (run n) (dR gY (ax 4) (ax 2)) (jv h i (W (iD x)) N N) [a8 (d5 s.1),aO (s.2.map iD)]=W (aM (!I (x∈s.1)),[a8 (d5 s.1),aO (s.2.map iD)]):=by
   show fb (aB rfl) (aB rfl) ?_
   show(if keyOk (d5 s.1) (iD x)=U then W (cW (d5 s.1) (iD x)).isSome else N).map (λr=>aM (!r))=_
   rwa[aJ (QI _ _),QJ];rfl
  by_cases q:x∈s.1
  .show (c s (W (iD x)) (C1 f) (C1 g)).elim λa c=>⟨a,?_⟩
   rwa[ea,pR,show pD s x=s by unfold pD;rwa[aJ q]]
   rw[dA q]at t
   show iE (de t eI) c
  .show (c (s.1++[x],s.2++[x]) (W (iD x)) (by simp;show bY (bC (kT ..)) f) (by simp;show bY (bC (kT ..)) g)).elim λa c=>⟨a,?_⟩
   rwa[ea,pR,show pD s x=(s.1++[x],s.2++[x]) by unfold pD;rwa[aL q]]
   rw[ef q]at t
   show iE (Bt t (fw AN (iP (qC (m:=0) (aB rfl) (aB rfl) (L:=d5 s.1) rfl (QI _ _) (by simp only[d5,bN];show e9 (tM (k:=b.length) rfl) (bg f (aQ rfl)))) ?_) (σ2:=[a8 (d5 (s.1++[x])),aO (s.2.map iD)]) (ρ':=jv h i (W (iD x)) N N) (gA (gz (σ3:=[a8 (d5 (s.1++[x])),aO ((s.2++[x]).map iD)]) (r:= cg) (aB rfl) rfl (bb (aB rfl)) ?_) eI)) eI) c
   .rwa [afE q];rfl
   .rwa [mY (l:=s.2.map iD) rfl (by rwa[bN];show e9 (tM (k:=b.length) rfl) (bg g (aQ rfl))),gH];rfl
end
theorem afG(g:List Nat):∀s:List Nat×List Nat,∃N:List Nat,g.foldl pD s=(s.1++N,s.2++N)/\N.Nodup/\(∀x∈N,x∉s.1)/\(∀x∈N,x∈g)/\∀x∈g,x∈s.1++N:=by
 induction g with
 |nil=>showλs=>⟨[],![eM,eM],kU,λz h=>aF h bc,λz h=>h,λz h=>aF h bc⟩
 |cons k g i=>
  intro s
  by_cases q:k∈s.1
  .show wy (i s) λN a b c d e=>⟨N,(aI (g.foldl pD) (aJ q)).trans a,b,c,λx f=>bq _ (d x f),λx f=>(bB.mp f).elim (λh=>h▸dT _ q) (e x)⟩
  .show wy (i (s.1++[k],s.2++[k])) λN a b c d e=>?_
   show⟨k::N,(aI (g.foldl pD) (aL q)).trans (a.trans ![iM,iM]),i9.mpr ⟨λh=>c k h (fG _ (a7 ..)),b⟩,
    λx f=>(bB.mp f).elim (λh=>h▸q) λh u=>c x h (dT _ u),
    λx f=>(bB.mp f).elim (λh=>h▸a7 ..) λh=>bq _ (d x h),
    λx f=>(iM .. :(s.1++[k])++N=s.1++k::N)▸(bB.mp f).elim (λh=>h▸dT _ (fG _ (a7 ..))) (e x)⟩
structure sI (ns:List (String×List Nat)) (i:Nat) (B W:List Nat):Prop where
 self:i∈B
 nd:B.Nodup
 le:∀j∈B,j<=i
 sub:∀j∈W,j∈B
 wl:W.length<=B.length
 cl:∀j∈B,j∈W\/∀p,ns[j]?=aa p->∀x∈p.2,x∈B
section
variable{n:Nat}{h:HS}
theorem sI.len(t:sI c i b a):b.length<=i+1:=by
 have:=oJ (S:=bE (i+1)) t.nd λx d=>fM.mpr (by have:=t.le x d;show yV ‹_›)
 show P this (bC gI)
def yd:CS:= cZ (.loop (bt 4) (dW (dB "kids" (ax 0) (aS (gL .pop (ax 3) aT) aT))) QK) c7
theorem QL(h:HS)(i n:Nat)(B W:List Nat)(a:Option D):ev tb (run (n+1)) (dR .Gt (fa dO (ax 3)) (dI 0)) (jv h i a N N) [a8 (d5 B),aO (W.map iD)]=aa (aM (I ((W.length:Int)>0)),[a8 (d5 B),aO (W.map iD)]) :=
 fb (d4 (r:= aq W.length) (aB rfl) ![lj (l:=W.map iD) rfl,bN]) cE rfl
theorem QM(k m:Nat)(t:sI h.nodes i a []):
 ∃d c,jk (ev tb (run (n+1)) (dR .Gt (fa dO (ax 3)) (dI 0))) (ba tb (run (n+1)) yd) (k+1+m) (jv h i b N N) [a8 (d5 a),aO (([]:List Nat).map iD)]=W (N,jv h i c N N,[a8 (d5 d),aO []])/\sI h.nodes i d [] :=
 ⟨a,b,by rwa[show k+1+m=(k+m)+1 by show gG ..];show xJ (QL h i n a [] b),t⟩
theorem afH(U:iT h.nodes)(Z:i<h.nodes.length)(L:i<=100)(h2:∀p∈h.nodes,p.2.length<=10):∀(k m:Nat)(B W:List Nat)(o4:Option D),sI h.nodes i B W->W.length+(i+1)=B.length+k ->
 ∃K q,jk (ev tb (run (n+1)) (dR .Gt (fa dO (ax 3)) (dI 0))) (ba tb (run (n+1)) yd) (k+1+m) (jv h i o4 N N) [a8 (d5 B),aO (W.map iD)]=aa (N,jv h i q N N,[a8 (d5 K),aO []])/\sI h.nodes i K []:=by
 intro k
 induction k with
 |zero=>
  intro m B W o4 t Q
  rcases List.eq_nil_or_concat W with rfl|⟨g,j,e⟩
  .show QM 0 m t
  .rw [zi]at e
   rw[e,cF,vN]at Q
   show aF (aC (bC Q) t.len) (nu (Nat.lt_add_of_pos_left (dm _)))
 |succ k ih=>
  intro m B W o4 t Q
  rcases List.eq_nil_or_concat W with rfl|⟨g,j,e⟩
  .show QM (k+1) m t
  .rw [zi]at e
   subst e
   have hB:=t.len
   have o:=QL h i n B (g++[j]) o4
   rw[dA (by simp)]at o
   have s:=t.wl
   rw[cF,vN]at Q s
   have hj:=t.le j (t.sub j (fG _ (a7 ..)))
   have hjl:j<h.nodes.length:=bY ‹_› ‹_›
   obtain⟨p,hp⟩:∃p,h.nodes[j]?=aa p:=⟨_,dn hjl⟩
   have QN:=h2 p (cN hp)
   show wy (afG p.2 (B,g)) λa ka b c d e=>?_
   obtain⟨H,M⟩:=afF (n:=n+1) (h:=h) (i:=i) p.2 (B,g) o4 (bY (jB (aC hB (ek L)) QN) (aQ rfl)) (bY (jB (aC (mh s) (aC hB (ek L))) QN) (aQ rfl))
   rw[ka]at M
   have V:sI h.nodes i (B++a) (g++a):=by
    show⟨dT _ t.self,oq.mpr ⟨t.nd,b,λx z y I e=>c y I (e▸z)⟩,λx z=>(d9.mp z).elim (t.le x) λu=>eL (bg (U j p hp x (d x u)) hj),λx z=>(d9.mp z).elim (λu=>dT _ (t.sub x (dT _ u))) (fG _),?_,λx z=>(d9.mp z).elim (λu=>(t.cl x u).elim (λv=>(d9.mp v).elim (λw=> aY (dT _ w)) λw=> aW ?_) λv=> aW λP A y I=>dT _ (v P A y I)) λu=> aY (fG _ u)⟩
    .rwa [cF,cF];show kS (mh s) _
    .rwa [bI.mp w]
     showλP A y I=>e y (aH (A.symm.trans hp)▸I)
   have J:ba tb (run (n+1)) yd (jv h i o4 N N) [a8 (d5 B),aO ((g++[j]).map iD)]=aa (N,jv h i H N N,[a8 (d5 (B++a)),aO ((g++a).map iD)]):=by
    unfold yd
    show(kP (ds:=p.2.map iD) (σ1:=[a8 (d5 B),aO (g.map iD)]) (b6 (c9 (aB rfl) rfl (f:=162) rfl (bb (gz (r:=iD j) (aB rfl) rfl fK ?_)) (QH hp)) rfl) M).trans eI
    show Bv (l:=g.map iD) (by show aa (aO ((g++[j]).map iD))=_;rwa[gH];rfl)
   show jW (ih m (B++a) (g++a) H V ![cF,cF,gG,gs ((Nat.succ_add _ _).symm.trans Q),gG]) λK q ih Y=>?_
   show⟨K,q,by rwa[show k+1+1+m=(k+1+m)+1 by show gG ..];show(xK o J).trans ih,Y⟩
def i4(a:List (String×List Nat))(l:List Nat):List (D×D):=l.map λj=>(iD j,(tm a j).toD)
theorem H9(b:List (String×List Nat))(l:List Nat)(i:Nat):keyOk (i4 b l) (iD i)=U:=by
 induction l with
 |nil=>rfl
 |cons a r c=>show c
theorem QO(c:i∈l):cw (i4 b l) (iD i)=W (tm b i).toD:=by
 induction l with
 |nil=>show aJ ‹_›
 |cons a r d=>
  show cw ((iD a,(tm b a).toD)::i4 b r) (iD i)=_
  rwa[n9]
  by_cases q:a=i
  .rwa [q,aJ rfl]
  .rwa [aL (λe=>q (j9 e))]
   show d ((bB.mp c).resolve_left λe=>q e.symm)
theorem afI(c:i∉l)(v:D):cp (i4 a l) (iD i) v=i4 a l++[(iD i,v)]:=by
 unfold cp
 generalize q:cW (i4 a l) (iD i)=b;induction b with
 |none=>rfl
 |some j=>
  obtain⟨w,d⟩:=kF q
  show fW ((cN d)) λx f e=>?_
  show aF (by rwa[<-j9 (aI Prod.fst e)];show f) c
noncomputable def QP:CS:= cZ (jJ (iz (ax 5) (ax 6)) (iV cV (e0 (aS (dB "op" (ax 0) (aS (ax 6) aT)) aT)) (fa gM (eH Y [N,N,W 5] (bt 1) (dW (dB "kids" (ax 0) (aS (ax 6) aT))) aT (cK (ax 2) (ax 1)))))) c7
noncomputable def Ia(f:Nat->D)(d:D):D:=match d with|.int x=>f x.toNat|d=>d
theorem afJ(r:iT h.nodes)(Q:∀p∈h.nodes,p.2.length<=2){i:Nat}{x y:O}{o4:Option D}{S:List Nat}(H:S.Pairwise (· <= ·))(I:S.Nodup)(J:S.length<900)(K:∀j∈S,j<h.nodes.length)(M:∀j∈S,∀p,h.nodes[j]?=W p->∀x∈p.2,x∈S)(R:List Nat):∀(P:List Nat)(q:Option D),P++R=S ->
 ∃a,loopGo (λd ρ σ=>(dY (bt 6) d ρ).bind λρ=>ba tb (run (n+1)) QP ρ σ) (R.map iD) (jv h i o4 (W (ak 2)) q) [x,y,a8 (i4 h.nodes P)]=W (ae,jv h i o4 (W (ak 2)) a,[x,y,a8 (i4 h.nodes S)]):=by
 induction R with
 |nil=>showλP q e=>⟨q,![<-e,eM]⟩
 |cons k R s=>
  intro P q e
  have N:(P++[k])++R=S:=(iM ..).trans e
  have A:k∈S:=e▸fG _ (a7 ..)
  obtain⟨p,b⟩:∃p,h.nodes[k]?=W p:=⟨_,dn (K k A)⟩
  have t:=Q p (cN b)
  have w:∀x∈p.2,x∈P:=λx l=>by
   have B:=M k A p b x l
   rw[<-e]at B
   show(d9.mp B).resolve_right λu=>(bB.mp u).elim (eU (r k p b x l)) λv=>nu (r k p b x l) ?_
   show(ou.mp (Dk.mp (e▸H:(P++k::R).Pairwise (· <= ·))).2.1).1 x v
  have U:P.length<900:=bY (aC (ew ..) (bC (cF.symm.trans (aI _ e)))) J
  show dM (s (P++[k]) (W (iD k)) N) λa s=>?_
  show⟨a,?_⟩
  rwa[ea]
  have c:=jq (cal:=run (n+1)) (σ:=[x,y,a8 (i4 h.nodes P)]) (mp:=[ae,ae,W 5]) (tg:= bt 1) (it:= dW (dB "kids" (ax 0) (aS (ax 6) aT))) (elt:= cK (ax 2) (ax 1)) (ρ:=jv h i o4 (W (ak 2)) (W (iD k))) (ds:=p.2.map iD)
   (g:=Ia λx=>(tm h.nodes x).toD) (b6 (c9 (aB rfl) rfl (f:=162) rfl (bb (aB rfl)) (QH b)) rfl) λd V=>by
   show ct d (b3.mp V) λx l=>?_
   show⟨[ae,W (iD x),W (ak 2)],rfl,cX (aB rfl) (aB rfl) ?_⟩
   show pv (H9 _ _ _) (QO (w x l))
  have o:((p.2.map iD).map (Ia λx=>(tm h.nodes x).toD))=(p.2.map (tm h.nodes)).map Pt.toD:=![dK,dK]
  rw[o]at c
  have z:(tm h.nodes k).toD= aw (sD p.1::(p.2.map (tm h.nodes)).map Pt.toD):=![vd r b,afw _ (by simpa using t)]
  show iE (fw (d:=(tm h.nodes k).toD) (et (eD (bb (c9 (aB rfl) rfl (f:=155) rfl (bb (aB rfl)) (afD b)))) (d4 c rfl) ?_) (iP (qC (m:=2) (aB rfl) (aB rfl) (L:=i4 h.nodes P) rfl (H9 _ _ _) (by rwa[i4,bN];lia)) ?_) (σ2:=[x,y,a8 (i4 h.nodes (P++[k]))]) (ρ':=jv h i o4 (W (ak 2)) (W (iD k))) eI) s
  .rwa [z]
   show px (by simp only[bN,fC,mr];lia)
  .rwa [afI (λu=>(oq.mp (e▸I:(P++k::R).Nodup)).2.2 k u k (a7 ..) rfl:k∉P),show i4 h.nodes P++[(iD k,(tm h.nodes k).toD)]=i4 h.nodes (P++[k]) by simp[i4]]
   rfl
theorem QR(g:iT h.nodes)(k:i<h.nodes.length)(o:i<=50)(q:∀p∈h.nodes,p.2.length<=2){J:St}:run (n+2) 174 [ak 2,iD i] (mk h++J)=W ((tm h.nodes i).toD,mk h++J):=by
 have a:mJ tb (run (n+1)) j4 174 [lr h,iD i] []=W ((tm h.nodes i).toD,[]):=by
  show nH (afH (n:=n) (h:=h) g k (by show P ‹_› (br ..)) (λp c=>by have:=q p c;show P ‹_› (br ..)) (i+1) (65534-i) [i] [i] N ⟨a7 ..,i9.mpr ⟨bc,kU⟩,λj h=>bC (bI.mp h),λz h=>h,bG _,λz h=> aY h⟩ (y1 _)) λB o4 w t=>?_
  have s:=t.len
  have e:=BI (l:=B) (bY (P s (ek o)) (aQ rfl))
  obtain⟨u,m⟩:=afJ (n:=n) (h:=h) g q (i:=i) (x:= a8 (d5 B)) (y:= aO []) (o4:=o4) (afz B) ((ll B).nodup_iff.mpr t.nd) (by rwa[(ll B).length_eq];lia) (λj f=>bY (t.le j ((ll B).mem_iff.mp f)) k) (λj f p c x v=>
   (ll B).mem_iff.mpr ((t.cl j ((ll B).mem_iff.mp f)).resolve_left (λh=>aF h bc) p c x v)) (iG B) [] N rfl
  have ex:ba tb (run (n+1)) An [W (lr h),W (iD i),N,N,N,N,N,N,N,N] []=W (W (tm h.nodes i).toD,jv h i o4 (W (ak 2)) u,[a8 (d5 B),aO [],a8 (i4 h.nodes (iG B))]):=by
   unfold An
   show fw (d:= aw [ak 0,ak 1]) (σ1:=[a8 (d5 [i]),aO ([i].map iD)]) (ρ':=jv h i N N N) (σ2:=[a8 (d5 [i]),aO ([i].map iD)]) ?_ rfl ?_
   .show eD (b8 (σ1:=[a8 (d5 [i])]) ?_ (bb (Bq (bb (aB rfl)))))
    rfl
   show(Bo (b:=yd) (show jk _ _ LF _ _=_ by rwa[show LF=i+1+1+(65534-i)from(aI (· +2) (vB (P o (aQ rfl:50<=65534)))).symm.trans (gG ..)];show w)).trans ?_
   show d8 (d:= ak 2) (σ1:=[a8 (d5 B),aO [],a8 (i4 h.nodes [])]) (by rfl) ?_
   show(kP (b:=QP) (b6 (d4 (r:= ay ((iG B).map iD)) (aB rfl) ?_) rfl) m).trans ?_
   .show Pe (l:=d5 B) rfl (![show(d5 B).map (·.1)=B.map iD by unfold d5;rwa[dK];rfl,e])
   .show di (cX (aB rfl) (aB rfl) ?_)
    show pv (H9 _ _ _) (QO ((ll B).mem_iff.mpr t.self))
  show(ba tb (run (n+1)) An [W (lr h),W (iD i),N,N,N,N,N,N,N,N] []).bind _=_
  rwa[ex]
  show iU [] (tm h.nodes i).toD [a8 (d5 B),aO [],a8 (i4 h.nodes (iG B))]=_
  unfold iU
  rwa[aJ (kz _),HM ((tm h.nodes i).bF.1)]
  rfl
 rwa[Fz,aJ (by rfl)]
 unfold wU
 rwa[aL (fe),afC,c5]
 dsimp only
 rwa[a]
 show aJ ((tm h.nodes i).bF.1)
end
structure Wd (Y:Ty) (t:Pt):Prop where
 gr:t.gr=af
 sm:∀x y,Y.T.cm 1 x->Y.T.cm 1 y->(dX Y.T (xy x y) t).isSome=af
def fy(Y:Ty)(t:Pt):List D:=Y.ws.map λw=>(dX Y.T (xy w.1 w.2) t).getD cg
section
variable{n:Nat}{Y:Ty}{σ:St}
theorem QS{Y:Ty}(a:Y.T.cm 1 x)(b:Y.T.cm 1 y):∀z d,xy x y z=W d->Y.T.cm (0+1) d:=λz d e=>Pp e a b
theorem QT(b:Y.Ok)(W:Wd Y t)(f:t.dep<=12):∀d∈fy Y t,Y.T.cm 12 d:=λd h=>by
 show jg (h) λw e=>?_
 have a:=b.wd w e
 obtain⟨v,c⟩:=fF.mp (W.sm w.1 w.2 a.1 a.2)
 rwa[c]
 show b.ok.up _ _ _ (xP b.ok (j:=0) (QS a.1 a.2) t v c) (by assumption)
theorem afK{b:Fm}(c:b[1]?=W (W x))(d:b[2]?=W (W y)):ev tb a (t6 ah (jl (fP "x") (ax 1) (jl (fP "y") (ax 2) iB))) b σ=W (js x y,σ):=by
 have e:mI tb a (jl (fP "x") (ax 1) (jl (fP "y") (ax 2) iB)) b σ=W ([(sD "x",x),(sD "y",y)],σ):=by
  show(ev tb a (ax 1) b σ).bind _=_
  rwa[aB c,c5]
  show((ev tb a (ax 2) b σ).bind _).map _=_
  rwa[aB d];rfl
 show(mI tb a _ b σ).bind _=_
 rwa[e,c5]
 rwa[show nL [(sD "x",x),(sD "y",y)]=W [(sD "x",x),(sD "y",y)] by kernel_rfl]
 rfl
noncomputable def of2(f:D->D->D)(d:D):D:=match d with|.tup [x,y]=>f x y|d=>d
theorem QU(a:Y.Ok)(i:t.gr=U)(b:∀w∈Y.ws,(dX Y.T (xy w.1 w.2) t).isSome=U)(j:t.dep<=12)(k:t.dep+1<=n):run (n+1) 639 [Y.T.self,t.toD,ay (Y.ws.map λw=> aw [w.1,w.2])] σ=W (ay (fy Y t),σ):=by
 show dM a.self λm l=>?_
 have c:=jq (cal:=run n) (σ:=σ) (mp:=[N,N,N,W 1,W 0]) (tg:= jI [1,2]) (it:= dW (ax 2)) (elt:= dB "value" (ax 4) (aS (ax 3) (aS (t6 ah (jl (fP "x") (ax 1) (jl (fP "y") (ax 2) iB))) aT))) (ρ:=[W Y.T.self,W t.toD,W (ay (Y.ws.map λw=> aw [w.1,w.2]))]) (ds:=Y.ws.map λw=> aw [w.1,w.2])
  (g:=of2 λx y=>(dX Y.T (xy x y) t).getD cg) (b6 (aB rfl) rfl) λd e=>by
  show ct d (b3.mp e) λw f=>?_
  obtain⟨v,h⟩:=fF.mp (b w f)
  show⟨[N,W w.1,W w.2,W t.toD,W Y.T.self],rfl,?_⟩
  show ev tb (run n) _ _ σ=W ((dX Y.T (xy w.1 w.2) t).getD cg,σ)
  rwa[h]
  show c9 (aB rfl) (![l]) a.val (b8 (aB rfl) (bb (afK rfl rfl))) (adm a.ok (a.wd w f).1 (a.wd w f).2 σ t v n i j k h)
 rw[dK]at c
 show dw (r:=W (ay (fy Y t))) (ρ':=[W Y.T.self,W t.toD,W (ay (Y.ws.map λw=> aw [w.1,w.2]))]) (by rfl) rfl rfl rfl rfl rfl ?_
 show ba tb (run n) E7 [W Y.T.self,W t.toD,W (ay (Y.ws.map λw=> aw [w.1,w.2]))] σ=_
 unfold E7
 show di c
theorem ye(d:Y.Ok)(a:Y.T.cm 1 x)(b:Y.T.cm 1 y)(W:Wd Y t):∃v,dX Y.T (xy x y) t=aa v/\Y.T.cm t.dep v:=by
 obtain⟨v,c⟩:=fF.mp (W.sm x y a b)
 show⟨v,c,xP d.ok (j:=0) (QS a b) t v c⟩
theorem Wd.c1(b:Y.Ok)(c:(op,1)∈Y.ops)(W:Wd Y a):Wd Y (ju op a):=⟨W.gr,λx y d e=>by
 show aV (ye b d e W) λv f g=>?_
 show((dX Y.T (xy x y) a).bind _).isSome=U
 rwa[f];show b.x8 op _ v c g⟩
theorem Wd.c2(c:Y.Ok)(h:(op,2)∈Y.ops)(W:Wd Y a)(e:Wd Y b):Wd Y (fc op a b):=⟨dN W.gr e.gr,λx y f g=>by
 show aV (ye c f g W) λv i j=>?_
 show aV (ye c f g e) λu k d=>?_
 show((dX Y.T (xy x y) a).bind λp=>(dX Y.T (xy x y) b).bind _).isSome=U
 rwa[i,k];show c.x9 op _ v u h (c.ok.up _ _ _ j (nr _ _)) (c.ok.up _ _ _ d (nt a.dep _))⟩
theorem Wd.leaf(a:Y.Ok)(h:op= "x" \/op= "y" \/op=Y.leaf):Wd Y (jt op):=⟨rfl,λx y z z=>by
 show((Y.T.v0 op).or (xy x y op)).isSome=U
 rcases h with rfl|rfl|rfl
 .rwa [a.m5.2.1];rfl
 .rwa [a.m5.2.2];rfl
 .obtain ⟨v,b⟩:=fF.mp a.m5.1
  rwa[b];rfl⟩
theorem Bs.kind(B:Bs Y m d f g i)(o:Y.Ok)(j:p∈d):
 (p.2=[]/\(p.1= "x" \/p.1= "y" \/p.1=Y.leaf))\/(∃a,p.2=[a]/\(p.1,1)∈Y.ops)\/(∃a b,p.2=[a,b]/\(p.1,2)∈Y.ops):=by
 show eA (B.rest) λrest e h z=>?_
 rw[e]at j
 rcases bB.mp j with e|j
 .rwa [e];show aY ⟨rfl,aY rfl⟩
 rcases bB.mp j with e|j
 .rwa [e];show aY ⟨rfl,aW (aY rfl)⟩
 rcases bB.mp j with e|j
 .rwa [e];show aY ⟨rfl,aW (aW rfl)⟩
 have k:=h p j
 have l:=o.pn _ k
 clear j
 generalize p.2=q at k l
 induction q using bH with
 |nil=>show l.2.elim (λe=>y3 e) λe=>y3 e
 |cons a t=>
  induction t using bH with
  |nil=>show aW (aY ⟨a,rfl,k⟩)
  |cons b t=>
   induction t using bH with
   |nil=>show aW (aW ⟨a,b,rfl,k⟩)
   |cons c t=>show l.2.elim (λe=>y3 (gs e)) λe=>y3 (gs (gs e))
theorem Bs.wd(B:Bs Y m c d e f)(r:Y.Ok)(k:Nat):∀(i:Nat),i<k->i<c.length->Wd Y (tm c i)/\(tm c i).dep<=i+1:=by
 induction k with
 |zero=>showλi h=>aF h (i7 _)
 |succ k l=>
  intro i h t
  have s:c[i]?=W c[i]:=dn t
  generalize c[i]=p at s
  have g:=B.low i p s
  have l:∀a∈p.2,Wd Y (tm c a)/\(tm c a).dep<=i:=λa j=>⟨(l a (bg (g a j) (iL h)) (e9 (g a j) t)).1,P (l a (bg (g a j) (iL h)) (e9 (g a j) t)).2 (g a j)⟩
  clear g
  rwa[vd B.low s]
  rcases B.kind r (cN s)with⟨o,q⟩|⟨a,o,q⟩|⟨a,b,o,q⟩
  .rwa [o];show⟨Wd.leaf r q,dm _⟩
  .rw [o]at l |-
   have j:=l a (a7 ..)
   show⟨Wd.c1 r q j.1,ek j.2⟩
  .rw [o]at l |-
   have j:=l a (a7 ..)
   have u:=l b (bq _ (a7 ..))
   show⟨Wd.c2 r q j.1 u.1,ek (jR.mpr ⟨j.2,u.2⟩)⟩
def told(Y:Ty)(ns:List (String×List Nat)):List (List D):=(bE ns.length).map λi=>fy Y (tm ns i)
def i5(Y:Ty)(a:List (String×List Nat)):D:= ay ((told Y a).map ay)
theorem Bs.two(B:Bs Y m ns c d e)(g:Y.Ok):∀p∈ns,p.2.length<=2:=λp h=>by
 rcases B.kind g h with⟨f,z⟩|⟨a,f,z⟩|⟨a,b,f,z⟩<;>simp[f]
theorem afL(l:Y.Ok)(B:Bs Y 3 a b e j):
 ev tb (run (n+12)) (eH ah [N,N,N,W 5,W 1,W 4] (bt 1) (nS (dB "size" (ax 5) aT)) aT (f6 639 (aS (ax 4) (aS (dB "term" (dZ (ax 3) 8) (aS (ax 1) aT)) (aS (ax 5) aT))))) (gT Y (W (ak 1)) o6 o7 o8 o9 o10 o11) (mk (cB c k a b e j))=W (i5 Y a,mk (cB c k a b e j)):=by
 have p:=B.len
 have r:=u0 (n:=n+10) (h:=cB c k a b e j) (J:=[])
 rw[eM]at r
 have q:=jq (cal:=run (n+12)) (σ:=mk (cB c k a b e j)) (mp:=[N,N,N,W 5,W 1,W 4]) (tg:= bt 1) (it:= nS (dB "size" (ax 5) aT)) (elt:= f6 639 (aS (ax 4) (aS (dB "term" (dZ (ax 3) 8) (aS (ax 1) aT)) (aS (ax 5) aT)))) (ρ:=gT Y (W (ak 1)) o6 o7 o8 o9 o10 o11) (ds:=(bE a.length).map λk=> aq (k:Nat))
  (g:=Ia λi=> ay (fy Y (tm a i))) (qv (c9 (aB rfl) (dD (sH _)) (f:=341) rfl fK r) (by show a.length<_;lia)) λd u=>by
  show ct d (b3.mp u) λi o=>?_
  have o:=fM.mp o
  have s:=B.wd l (i+1) i (dP _) o
  have t:=QR (n:=n+10) (h:=cB c k a b e j) (i:=i) B.low o (by lia) (B.two l) (J:=[])
  rw[eM,show(cB c k a b e j).nodes=a from rfl]at t
  show⟨[N,W (iD i),N,W (ak 1),W Y.T.self,W (ay (Y.ws.map λw=> aw [w.1,w.2]))],rfl,?_⟩
  show jr (b8 (aB rfl) (b8 (c9 (at_of rfl (sH _) (aQ rfl) rfl) (dD (show(mk (cB c k a b e j))[2]?=W (cz 198 [(0,ak 3),(1,ak 4),(2,ak 5),(3,ak 6)])from rfl)) (f:=174) rfl (bb (aB rfl)) t) (bb (aB rfl)))) (QU l s.1.gr (λw m=>s.1.sm _ _ (l.wd w m).1 (l.wd w m).2) (by lia) (by lia))
 rwa[q,dK]
 unfold i5 told
 rwa[dK]
 rfl
end
noncomputable def hm(l:List (List D))(i:Nat):Nat:=l.findIdx λw=>I (w=l.getD i [])
section
variable{l:List (List D)}{i j:Nat}
theorem gD(h:i<l.length):l.getD i []=l[i]:=![ja,dn h]
theorem Cb(h:i<l.length):hm l i<=i:=by
 unfold hm
 show fi λu=>?_
 have:=List.not_of_lt_findIdx u
 show aF (gD h).symm (of_decide_eq_false this)
theorem yf(h:i<l.length):hm l i<l.length:=bY (Cb h) h
theorem Cc(h:i<l.length):l.getD (hm l i) []=l.getD i []:=by
 have:=List.findIdx_getElem (w:=(show l.findIdx (λw=>I (w=l.getD i []))<l.length from yf h))
 rwa[gD (yf h)]
 show bS this
theorem yg(h:i<l.length):hm l (hm l i)=hm l i:=by
 show l.findIdx _=l.findIdx _
 rwa[Cc h]
theorem Ib(h:i<l.length)(g:j<l.length):hm l i=hm l j↔l.getD i []=l.getD j []:=by
 constructor
 .intro e;rwa[<-Cc h,e,Cc g]
 .intro e;unfold hm;rwa[e]
end
theorem afM{l:List (List D)}:x∈l->(∀a∈l,cG (ay a) (ay x)=W (I (a=x)))->qc (l.map ay) (ay x)=W (l.findIdx λw=>I (w=x)):=by
 induction l with
 |nil=>showλh=>aF h bc
 |cons a r c=>
  intro h e
  rwa[ea,Lj,e a (a7 ..),List.findIdx_cons]
  by_cases q:a=x
  .rwa [dA q];rfl
  .rwa [ef q]
   show aI (gj (· +1)) (c ((bB.mp h).resolve_left λu=>q u.symm) λb d=>e b (bq _ d))
theorem Cd(l:List (D×D))(k v c:D):cw (cp l k v) c=if k=c then W v else cw l c:=by
 induction l with
 |nil=>show cw [(k,v)] c=_;rwa[n9]
 |cons p r d=>
  obtain⟨a,b⟩:=p
  have f:cp ((a,b)::r) k v=if a=k then(a,v)::r else(a,b)::cp r k v:=by
   unfold cp cW
   rwa[rg]
   by_cases q:a=k
   .simp [q]
   .simp only [decide_eq_true_eq,q,if_false]
    cases ze (λp:D×D=>I (p.1=k)) r<;>show kz _
  rwa[f]
  by_cases q:a=k
  .rwa [aJ q,n9,n9,q]
   split<;>rfl
  .rwa [aL q,n9,n9,d]
   by_cases u:a=c
   .rwa [aJ u,aJ u,aL (λe=>q (u.trans e.symm))]
   .rwa [aL u,aL u]
theorem afN(l:List (D×D))(k c:D)(h:k≠c):cw (hG l k) c=cw l c:=by
 induction l with
 |nil=>rfl
 |cons p r d=>
  obtain⟨a,b⟩:=p
  have f:hG ((a,b)::r) k=if a=k then r else(a,b)::hG r k:=by
   delta hG cW
   rwa[rg]
   by_cases q:a=k
   .simp [q]
   .simp only [decide_eq_true_eq,q,if_false]
    cases ze (λp:D×D=>I (p.1=k)) r<;>show kz _
  rwa[f]
  by_cases q:a=k
  .rwa [aJ q,n9,aL (λe=>h (q.symm.trans e))]
  .rwa [aL q,n9,n9,d]
theorem afO(h:∀p∈l,∃i,p.1=iD i)(k:Nat)(v:D):(∀p∈cp l (iD k) v,∃i,p.1=iD i)/\(cp l (iD k) v).length<=l.length+1:=by
 have e:=sA l (iD k) v
 show⟨λp c=>?_,?_⟩
 .have:p.1∈(cp l (iD k) v).map (·.1):=ij (f:=(·.1)) c
  rw[e]at this
  split at this
  .show fW (this) λq a b=>?_
   rwa[<-b];show h q a
  .rcases d9.mp this with u|u
   .show fW (u) λq a b=>?_
    rwa[<-b];show h q a
   .show ⟨k,bI.mp u⟩
 .have:=aI tj e
  rw[bN]at this
  rwa[this]
  split<;>simp
theorem QV(h:∀p∈l,∃i,p.1=iD i)(k:Nat):(∀p∈hG l (iD k),∃i,p.1=iD i)/\(hG l (iD k)).length<=l.length:=by
 unfold hG
 split
 .show ⟨λp a=>h p (List.mem_of_mem_eraseIdx a),List.length_eraseIdx_le ..⟩
 .show ⟨h,bG _⟩
section
variable{n:Nat}{h:HS}{J:St}
theorem QW:(mk h++J)[10]?=W (aO h.fQ):=rfl
theorem Ic:(mk h++J)[11]?=W (aO h.i3):=rfl
theorem QX:(mk h++J)[12]?=W (aO h.fo):=rfl
theorem yh:(mk h++J)[15]?=W (aO h.wa):=rfl
theorem QY(b:a<h.lots.length):hM (look (mk h++J) (ak 9)) (iD a)=W (ak (16+2*a)):=by
 rwa[d7 (@g9 h J)]
 show l0 (![dy,pS b])
theorem afP{la lf:List Nat}(v:Flat h.up)(y:h.up[a]?=W a)(z:h.up[f]?=W f)(t:f<a)(A:h.lots.length=h.us.length)(M:h.lots.length=h.up.length)(w:h.lots[a]?=W la)(B:h.lots[f]?=W lf)(N:la.length+lf.length<=1000)(P:h.fQ.length<=1000):
 run (n+2) 280 [ak 7,iD a,iD f] (mk h++J)=W (aw [iD f,iD a],mk {h with up:=h.up.set a f,lots:=h.lots.set f (lf++la),fQ:=h.fQ++[aw [iD f,iD a]]}++J):=by
 have Q:a<h.lots.length:=(cD.mp w).1
 have H:=BH (n:=n) (J:=J) v y
 have I:=BH (n:=n) (J:=J) v z
 have s:316∈lN:=aQ rfl
 generalize e:({h with up:=h.up.set a f}:HS)=g
 have k:g.lots.length=g.us.length:=by rwa[<-e];show A
 have b:g.lots=h.lots:=![<-e]
 have u:g.us=h.us:=![<-e]
 have q:g.fQ=h.fQ:=![<-e]
 generalize o:({g with lots:=h.lots.set f (lf++la)}:HS)=p
 have i:p.fQ=h.fQ:=by rwa[<-o];show q
 have K:({h with up:=h.up.set a f,lots:=h.lots.set f (lf++la),fQ:=h.fQ++[aw [iD f,iD a]]}:HS)={p with fQ:=h.fQ++[aw [iD f,iD a]]}:=![<-o,<-e]
 rwa[K]
 show dw (r:=W (aw [iD f,iD a])) (ρ':=[W (ak 7),W (iD a),W (iD f),W (iD f),W (iD a),ae]) (by rfl) rfl rfl rfl rfl rfl ?_
 show ba tb (run (n+1)) EV [W (ak 7),W (iD a),W (iD f),ae,ae,ae] _=_
 unfold EV
 show fw (d:= ay [iD f,iD a]) (d4 (n7 (b8 (c9 (aB rfl) (dD (@g7 h J)) (f:=273) rfl (bb (aB rfl)) H) (bb (c9 (aB rfl) (dD (@g7 h J)) (f:=273) rfl (bb (aB rfl)) I)))) ?_) rfl ?_
 .show Bu (l:=[a,f].map iD) rfl ((BI (br ..)).trans ?_)
  show aI (λl:List Nat=>W (l.map iD)) (aL (c:=a<f) (Nat.lt_asymm t))
 show de (fb (aB rfl) (aB rfl) (r:= aM Y) ?_) ?_
 .show (Bx _ _).trans (![ef (eU ‹_›)])
 show fw (aB rfl) (iP (acW (m:=8) (j:=a) (at_of rfl (@g7 h J) s rfl) (aB rfl) (@g8 h J) (by rwa[bN];show ey ‹_› ‹_›)) ?_) (σ2:=mk g++J) (ρ':=[W (ak 7),W (iD a),W (iD f),W (iD f),W (iD a),ae]) ?_
 .rwa [<-e,<-List.map_set];rfl
 have x:=HR (h:=g) (J:=J) (a:=f) (l:=lf) k (by rwa[b];show B)
 have L:=HR (h:=g) (J:=J) (a:=a) (l:=la) k (by rwa[b];show w)
 show gA (gz (r:= cg) (σ3:=mk p++J) (cX (at_of rfl (@g7 g J) s rfl) (aB rfl) (QY (by rwa[b];show e9 ‹_› ‹_›))) (![d7 x]) (bb (cX (at_of rfl (@g7 g J) s rfl) (aB rfl) (QY ![b]))) ?_) ?_
 .rwa [Ht x (d7 L) (by simp only[bN];lia) (by simp;lia),<-gH,ae6 k (by rwa[u];lia),<-o,b]
 show gA (gz (r:= cg) (σ3:=mk {p with fQ:=h.fQ++[aw [iD f,iD a]]}++J) (at_of rfl (@g7 p J) s rfl) (![d7 (@QW p J)]) (bb (eD (b8 (aB rfl) (bb (aB rfl))))) ?_) (di (eD (b8 (aB rfl) (bb (aB rfl)))))
 rwa[mY QW (by rwa[i];show bY ‹_› (br ..)),i]
 rfl
noncomputable def AV(h:HS)(i:Nat)(v:D)(l:List D):Prop:=v= ay l\/(v= ak (17+2*i)/\h.us[i]?=W l)
theorem AV.look(a:AV h i v l)(b:h.lots.length=h.us.length):look (mk h++J) v= ay l:=by
 rcases a with rfl|⟨rfl,e⟩
 .rfl
 .show d7 (PS b e)
theorem AV.ne(a:AV h i v l):v≠ ak 15:=by
 rcases a with rfl|⟨rfl,e⟩
 .show ne_of_beq_false rfl
 .simp;lia
theorem afQ{la lf:List Nat}(hf:Flat h.up)(ua:h.up[a]?=aa a)(uf:h.up[f]?=aa f)(W:f<a)(hl:h.lots.length=h.us.length)(hu:h.lots.length=h.up.length)(ka:h.lots[a]?=aa la)(kf:h.lots[f]?=aa lf)(hz:la.length+lf.length<=1000)(hm:h.fQ.length<=1000)
(he:h.i3.length<=1000)(ho:h.fo.length<=1000)(hw:h.wa.length+b.length<=10000)(x:∀p∈h.ab,∃i,p.1=iD i)(GS:h.ab.length<900)(da:cw h.ab (iD a)=aa e)(df:cw h.ab (iD f)=aa g)(av:AV h a e b)(fv:AV h f g c)(hz2:c.length+b.length<=10000):
 run (n+3) 391 [ak 1,iD a,iD f,r] (mk h++J)=aa (aM af,mk {h with up:=h.up.set a f,lots:=h.lots.set f (lf++la),fQ:=h.fQ++[aw [iD f,iD a]],i3:=h.i3++[aw [iD a,iD f,r]],fo:=h.fo++[iD h.i3.length],wa:=h.wa++b,ab:=cp (hG h.ab (iD a)) (iD f) (ay (c++b))}++J):=by
 have y:446∈lN:=aQ rfl
 generalize j:({h with i3:=h.i3++[aw [iD a,iD f,r]]}:HS)=z
 have um:=afP (n:=n) (h:=z) (J:=J) (a:=a) (f:=f) (la:=la) (lf:=lf) (by rwa[<-j];show hf) (by rwa[<-j];show ua) (by rwa[<-j];show uf) W (by rwa[<-j];show hl) (by rwa[<-j];show hu) (by rwa[<-j];show ka) (by rwa[<-j];show kf) hz (by rwa[<-j];show hm)
 generalize k:({z with up:=z.up.set a f,lots:=z.lots.set f (lf++la),fQ:=z.fQ++[aw [iD f,iD a]]}:HS)=L at um
 have K:L.i3=h.i3++[aw [iD a,iD f,r]]:=![<-k,<-j]
 have A:L.fo=h.fo:=![<-k,<-j]
 generalize o:({L with fo:=h.fo++[iD h.i3.length]}:HS)=q
 have B:q.ab=h.ab:=![<-o,<-k,<-j]
 have Q:q.wa=h.wa:=![<-o,<-k,<-j]
 have H:q.us=h.us:=![<-o,<-k,<-j]
 have M:q.lots.length=q.us.length:=by rwa[<-o,<-k,<-j];simpa using hl
 generalize t:({q with wa:=h.wa++b}:HS)=w
 have l:w.ab=h.ab:=by rwa[<-t];show B
 have N:w.us=h.us:=by rwa[<-t];show H
 have Y:w.lots.length=w.us.length:=by rwa[<-t];show M
 generalize u:({w with ab:=hG h.ab (iD a)}:HS)=s
 have v:s.ab=hG h.ab (iD a):=![<-u]
 have I:s.us=h.us:=by rwa[<-u];show N
 have P:s.lots.length=s.us.length:=by rwa[<-u];show Y
 have U:({h with up:=h.up.set a f,lots:=h.lots.set f (lf++la),fQ:=h.fQ++[aw [iD f,iD a]],i3:=h.i3++[aw [iD a,iD f,r]],fo:=h.fo++[iD h.i3.length],wa:=h.wa++b,ab:=cp (hG h.ab (iD a)) (iD f) (ay (c++b))}:HS)={s with ab:=cp (hG h.ab (iD a)) (iD f) (ay (c++b))}:=![<-u,<-t,<-o,<-k,<-j]
 rwa[U]
 have Z:=QV x a
 have V:AV q a e b:=by unfold AV;rwa[H];show av
 have fv5:AV s f g c:=by unfold AV;rwa[I];show fv
 have av5:AV s a e b:=by unfold AV;rwa[I];show av
 show dw (r:=aa (aM af)) (ρ':=[aa (ak 1),aa (iD a),aa (iD f),aa r,aa (aw [iD f,iD a]),aa (iD f),aa (iD a),ae]) (by rfl) rfl rfl rfl rfl rfl ?_
 show ba tb (run (n+2)) EY [aa (ak 1),aa (iD a),aa (iD f),aa r,ae,ae,ae,ae] _=_
 unfold EY
 show gA (gz (r:= cg) (σ3:=mk z++J) (at_of rfl (@g1 h J) y rfl) (![d7 (@Ic h J)]) (bb (eD (b8 (aB rfl) (b8 (aB rfl) (bb (aB rfl)))))) ?_) ?_
 .rwa [mY Ic (bY ‹_› (br ..)),<-j]
  rfl
 show d8 (c9 (at_of rfl (@g1 z J) y rfl) (dD (@g7 z J)) (f:=280) rfl (b8 (aB rfl) (bb (aB rfl))) um) ?_
 show de (fb (aB rfl) FC (r:= aM ah) rfl) ?_
 show fw (aB rfl) rfl ?_
 show gA (gz (r:= cg) (σ3:=mk q++J) (at_of rfl (@g1 L J) y rfl) (![d7 (@QX L J)]) (bb (et (r:=iD h.i3.length) (d4 (r:= aq (h.i3.length+1)) (at_of rfl (@g1 L J) y rfl) (by rwa[lj (d7 Ic),K];simp)) cE ?_)) ?_) ?_
 .show Hv _
 .rwa [mY QX (by rwa[A];show bY ‹_› (br ..)),A,<-o]
  rfl
 show gA (gz (r:= cg) (σ3:=mk w++J) (at_of rfl (@g1 q J) y rfl) (![d7 (@yh q J)]) (bb (cX (r:=e) (at_of rfl (@g1 q J) y rfl) (aB rfl) ?_)) ?_) ?_
 .rwa [lZ (@sG q J),B]
  show pv (u3 x a) da
 .rwa [Ht yh (V.look M) (by rwa[Q];show aC ‹_› (br ..)) V.ne,Q,<-t]
  rfl
 show fw (d:= ay (c++b)) (σ1:=mk s++J) (et (cX (r:=g) (at_of rfl (@g1 w J) y rfl) (aB rfl) ?_) (gz (r:=e) (σ3:=mk s++J) (at_of rfl (@g1 w J) y rfl) (![lZ (@sG w J)]) (bb (aB rfl)) ?_) ?_) (iP (qC (m:=14) (at_of rfl (@g1 s J) y rfl) (aB rfl) (@sG s J) (by rwa[v];show u3 Z.1 f) (by rwa[v];lia)) ?_) (σ2:=mk {s with ab:=cp (hG h.ab (iD a)) (iD f) (ay (c++b))}++J) (ρ':=[aa (ak 1),aa (iD a),aa (iD f),aa r,aa (aw [iD f,iD a]),aa (iD f),aa (iD a),ae]) ?_
 .rwa [lZ (@sG w J),l]
  show pv (u3 x f) df
 .rwa [ac2 sG (by rwa[l];show u3 x a) (by rwa[l];show da),l,<-u]
  rfl
 .rwa [fv5.look P,av5.look P]
  show Bw (aC ‹_› (br ..))
 .rwa [v];rfl
 show di AN
theorem afR(j:run (n+3) 391 [ak 1,iD a,iD f,r] (mk h++J)=W (aM U,mk b++J)):run (n+4) 384 [ak 1,iD a,iD f,r] (mk h++J)=W (aM U,mk b++J):=by
 show dw (r:=W (aM U)) (ρ':=[W (ak 1),W (iD a),W (iD f),W r]) (by rfl) rfl rfl rfl rfl rfl ?_
 show ba tb (run (n+3)) EX [W (ak 1),W (iD a),W (iD f),W r] _=_
 unfold EX
 show di (c9 (aB rfl) (dD (@g1 h J)) (f:=391) rfl (b8 (aB rfl) (b8 (aB rfl) (bb (aB rfl)))) j)
end
def m8(a:List (List D))(N n:Nat):List Nat:=(bE N).map λi=>if i<n then hm a i else i
def pE(b:List (List D))(N n:Nat):List (List Nat):=(bE N).map λa=>a::(bE n).filter λj=>I (j≠a/\hm b j=a)
structure Mg (Y:Ty) (c:List D) (k:Nat) (ns:List (String×List Nat)) (wt dp:List Int) (us:List (List D)) (n:Nat) (h:HS):Prop where
 rest:h.cells=c/\h.at_=k/\h.nodes=ns/\h.wt=wt/\h.dp=dp/\h.kn=eE ns/\h.us=us
 up:h.up=m8 (told Y ns) ns.length n
 lots:h.lots=pE (told Y ns) ns.length n
 sz:h.fQ.length<=n/\h.i3.length<=n/\h.fo.length<=n
 wa:h.wa.length<=20*2^n/\∀d∈h.wa,∃j,j<ns.length/\d=iD j
 ab:(∀p∈h.ab,∃i,p.1=iD i)/\h.ab.length<=10+n/\∀i,i<ns.length->(n<=i\/hm (told Y ns) i=i)->∃v l,cw h.ab (iD i)=aa v/\AV h i v l/\l.length<=20*2^n/\∀d∈l,∃j,j<ns.length/\d=iD j
section
variable{tl:List (List D)}{N n:Nat}
theorem qN(a:i<N):(m8 tl N n)[i]?=W (if i<n then hm tl i else i):=by
 unfold m8;rwa[dy,pS a];rfl
theorem QZ:(m8 tl N n).length=N:=(bN ..).trans gI
theorem Q0(c:tl.length=N):Flat (m8 tl N n):=λi a h=>by
 have b:i<N:=bg (cD.mp h).1 (bC QZ)
 rw[qN b]at h
 have h:=L h
 by_cases q:i<n
 .rwa [<-h,aJ q]
  have:=Cb (l:=tl) (i:=i) (c▸b)
  rwa[qN (bY this b),aJ (bY this q),yg (c▸b)]
 .rwa [<-h,aL q,qN b,aL q]
theorem Q1(h:∀i,n≠i->f i=g i)(c:v=g n):((bE N).map f).set n v=(bE N).map g:=by
 apply y7
 intro i
 rwa[Jb,dy,dy]
 by_cases b:i<N
 .rwa [pS b]
  by_cases e:n=i
  .rwa [aJ e,bN,gI,aJ (e▸b),c,e];rfl
  .rwa [aL e];show aI W (h i e)
 .rwa [Dt (P (bC gI) (fi b))]
  by_cases e:n=i
  .rwa [aJ e,bN,gI,aL (e▸b)];rfl
  .rwa [aL e];rfl
theorem Q2(e:n≠i):(if i<n then hm tl i else i)=if i<n+1 then hm tl i else i:=by
 by_cases q:i<n
 .rwa [aJ q,aJ (jQ q)]
 .rwa [aL q,aL λu=>(C2.mp u).elim q λw=>e w.symm]
theorem afS(h:hm tl n=n):m8 tl N (n+1)=m8 tl N n:=by
 show fN λi z=>?_
 by_cases e:n=i
 .rwa [<-e,aJ (dP _),aL (cq _),h]
 .show (Q2 e).symm
theorem afT:(m8 tl N n).set n (hm tl n)=m8 tl N (n+1):=Q1 (λz=>Q2) (aJ (dP _)).symm
theorem Ie(b:a<N):(pE tl N n)[a]?=W (a::(bE n).filter λj=>I (j≠a/\hm tl j=a)):=by
 unfold pE;rwa[dy,pS b];rfl
theorem Ig(a:Nat):((bE (n+1)).filter λj=>I (j≠a/\hm tl j=a))=((bE n).filter λj=>I (j≠a/\hm tl j=a))++if n≠a/\hm tl n=a then[n]else[]:=by
 rwa[JA,zk,zh,List.filter_nil]
 by_cases q:n≠a/\hm tl n=a
 .rwa [dA q,aJ rfl,aJ q]
 .rwa [ef q,aL q,aL (fe)]
theorem afU(h:hm tl n=n):pE tl N (n+1)=pE tl N n:=by
 unfold pE
 show fN λa z=>?_
 rwa[Ig,aL (λq=>q.1 (h.symm.trans q.2)),eM]
theorem afV(b:hm tl n=f)(a:f≠n):(pE tl N n).set f ((f::(bE n).filter λj=>I (j≠f/\hm tl j=f))++[n])=pE tl N (n+1) :=
 Q1 (λi e=>![Ig,aL (λq=>e (b.symm.trans q.2)),eM]) (![Ig,aJ ⟨λu=>a u.symm,b⟩])
end
section
variable{n:Nat}{Y:Ty}{c:List D}{k:Nat}{ns:List (String×List Nat)}{wt dp:List Int}{us:List (List D)}{h:HS}{J:St}
theorem iH:(told Y ns).length=ns.length:=(bN ..).trans gI
theorem od(a:i<ns.length):(told Y ns).getD i []=fy Y (tm ns i):=by
 rwa[gD (by rwa[iH];show a)]
 simp[told]
theorem afW(e:Y.Ok)(B:Bs Y 3 ns wt dp us):∀a∈told Y ns,∀b∈told Y ns,cG (ay a) (ay b)=W (I (a=b)):=by
 have j:∀a∈told Y ns,∀d∈a,Y.T.cm 12 d:=λa g=>by
  show ct a (b3.mp g) λi f=>?_
  have f:=fM.mp f
  have:=B.wd e (i+1) i (dP _) f
  have:=B.len
  show QT e (B.wd e (i+1) i (by lia) f).1 (by lia)
 showλa g b l=>e.eq a b (j a g) (j b l)
theorem Q3{f:Fm}(o:Y.Ok)(B:Bs Y 3 ns wt dp us)(p:f[v]?=W (W (i5 Y ns)))(l:w∈told Y ns)(q:ev tb e x f b=W (ay w,b))(r:(told Y ns).findIdx (λa=>I (a=w))=i):
 ev tb e (gL lQ (ax v) (aS x aT)) f b=W (iD i,b):=by
 show gz (aB p) (by rfl) (bb q) ?_
 have m:∀a∈told Y ns,cG (ay a) (ay w)=W (I (a=w)):=λa g=>afW o B a g w l
 show f5 lQ (ay ((told Y ns).map ay)) [ay w] b=_
 show(if(List.all ((told Y ns).map ay) λd=>(cG d (ay w)).isSome)=U then(qc ((told Y ns).map ay) (ay w)).map (λ(j:Nat)=>(aq j,b))else N)=_
 rwa[aJ (bQ.mpr λd s=>by
  show ct d (b3.mp s) λa g=>?_
  rwa[m a g];rfl),afM l m,r]
 rfl
theorem Q4(b:i<ns.length):hM (look a (i5 Y ns)) (iD i)=W (ay (fy Y (tm ns i))):=by
 show hM (ay ((told Y ns).map ay)) (iD i)=_
 show l0 (by simp[told,b])
theorem afX{ρ:Fm}(e:Y.Ok)(B:Bs Y 3 ns wt dp us)(a:i<ns.length)(d:ρ[v]?=W (W (i5 Y ns)))(f:ρ[w]?=W (W (iD i))):
 ev tb cal (gL lQ (ax v) (aS (cK (ax v) (ax w)) aT)) ρ σ=W (iD (hm (told Y ns) i),σ):=by
 have b:fy Y (tm ns i)∈told Y ns:=b3.mpr ⟨i,fM.mpr a,rfl⟩
 show Q3 e B d b (cX (aB d) (aB f) (Q4 a)) ?_
 unfold hm
 rwa[od a]
theorem mg0(g:Y.Ok)(B:Bs Y 3 ns wt dp us):Mg Y c k ns wt dp us 0 (cB c k ns wt dp us) where
 rest:=⟨rfl,rfl,rfl,rfl,rfl,rfl,rfl⟩
 up:=((fN λi z=>aL (i7 i)).trans (Dz _)).symm
 lots:=by rfl
 sz:=⟨cQ _,cQ _,cQ _⟩
 wa:=⟨cQ _,λz h=>aF h bc⟩
 ab:=by
  have a:=B.len
  show⟨λp d=>?_,P (bC ((bN ..).trans gI)) (P a.2 (aQ rfl)),λi e z=>?_⟩
  .show ct p (b3.mp d) λi z=>?_;show⟨i,rfl⟩
  .have f:=B.ul.1
   have b:us[i]?=W (us[i]'(ey ‹_› (gq ‹_›))):=dn (by lia)
   generalize us[i]'(by lia)=l at b
   have:=B.ul.2 l (cN b)
   show⟨ak (17+2*i),l,Qw _ e,aW ⟨rfl,b⟩,by lia,this.2⟩
def Ih:CS:= cZ (k7 (dR iO (gL lQ (ax 11) (aS (cK (ax 11) (ax 10)) aT)) (ax 10)) (cZ (.ex (dB "merge" (ax 5) (aS (ax 10) (aS (gL lQ (ax 11) (aS (cK (ax 11) (ax 10)) aT)) (aS (e0 (aS (fP "told") (aS (fP "worth") aT))) aT))))) c7) c7) c7
theorem afY(hY:Y.Ok)(B:Bs Y 3 ns wt dp us)(M:Mg Y c k ns wt dp us m h)(g:m<ns.length):
 ∃h',Mg Y c k ns wt dp us (m+1) h'/\ba tb (run (n+4)) Ih (gT Y (aa (ak 1)) o6 o7 o8 o9 (aa (iD m)) (aa (i5 Y ns))) (mk h++J)=aa (ae,gT Y (aa (ak 1)) o6 o7 o8 o9 (aa (iD m)) (aa (i5 Y ns)),mk h'++J):=by
 have I:=B.len
 have ht:m<(told Y ns).length:=by rwa[iH];show g
 have hle:=Cb ht
 have Z:=afX (cal:=run (n+4)) (σ:=mk h++J) (ρ:=gT Y (aa (ak 1)) o6 o7 o8 o9 (aa (iD m)) (aa (i5 Y ns))) hY B (v:=11) (w:=10) g rfl rfl
 have b:ev tb (run (n+4)) (dR iO (gL lQ (ax 11) (aS (cK (ax 11) (ax 10)) aT)) (ax 10)) (gT Y (aa (ak 1)) o6 o7 o8 o9 (aa (iD m)) (aa (i5 Y ns))) (mk h++J)=aa (aM (aK ((hm (told Y ns) m:Int)<m)),mk h++J):=fb Z (aB rfl) rfl
 have m6:m<=6:=aC (eL g) I.2
 have K:20*2^m<=1280:=kr 20 (pL (dm 1) m6)
 have y:20*2^m+20*2^m=20*2^(m+1):=![s9,<-C7,vE]
 have o:20*2^m<=20*2^(m+1):=y▸ew ..
 by_cases q:hm (told Y ns) m=m
 .rw [ef (by rwa[q];show Int.lt_irrefl _)]at b
  show⟨h,⟨M.rest,by rwa[afS q];show M.up,by rwa[afU q];show M.lots,⟨gV M.sz.1,gV M.sz.2.1,gV M.sz.2.2⟩,⟨aC M.wa.1 o,M.wa.2⟩,M.ab.1,gV M.ab.2.1,λi hi ha=>?_⟩,de b eI⟩
  show ix (M.ab.2.2 i hi (ha.imp_left mh)) λv l h1 h2 h3 h4=>x2 v l ⟨h1,h2,aC h3 o,h4⟩
 .have L:hm (told Y ns) m<m:=oo hle q
  rw[dA (jd.mpr L)]at b
  generalize s:hm (told Y ns) m=f at q L Z b
  have N:hm (told Y ns) f=f:=by rwa[<-s];show yg ht
  have z:=e9 L g
  show ix (M.ab.2.2 m g (aY (bG _))) λva La a1 a2 a3 a4=>?_
  show ix (M.ab.2.2 f z (aW N)) λvf Lf f1 f2 f3 f4=>?_
  have p:h.lots.length=ns.length:=by rwa[M.lots];show(bN ..).trans gI
  have hup:h.up.length=ns.length:=by rwa[M.up];show QZ
  have A4:h.us.length=ns.length:=by rwa[M.rest.2.2.2.2.2.2];show B.ul.1
  have t:((bE m).filter λj=>aK (j≠m/\hm (told Y ns) j=m))=[]:=by
   rwa[Jh]
   intro j hj e
   have hj:=fM.mp hj
   show aF ((bS e).2▸Cb (l:=told Y ns) (i:=j) (by rwa[iH];show e9 hj g)) (nu hj)
  have ka:h.lots[m]?=aa [m]:=![M.lots,Ie g,t]
  have kf:h.lots[f]?=aa (f::(bE m).filter λj=>aK (j≠f/\hm (told Y ns) j=f)):=![M.lots,Ie z]
  have H:=M.sz
  have P:=M.wa.1
  have U:=M.ab.2.1
  have m1:m<=1000:=aC m6 (aQ rfl)
  have b2:20*2^m+20*2^m<=10000:=aC (jB K K) (aQ rfl)
  have j:=afR (afQ (n:=n) (J:=J) (h:=h) (a:=m) (f:=f) (r:= aw [sD "told",sD "worth"]) (by rwa[M.up];show Q0 iH) (![M.up,qN g,aL (cq _)]) (![M.up,qN z,aJ L,N]) L (p.trans A4.symm) (p.trans hup.symm) ka kf
   (aC (fh (ek (aC (aC (vQ _ _) (bC gI)) m6)) 1) (aQ rfl)) (aC H.1 m1) (aC H.2.1 m1) (aC H.2.2 m1) (aC (jB P a3) b2) M.ab.1 (bY (aC U (fh m6 10)) (aQ rfl)) a1 f1 a2 f2 (aC (jB f3 a3) b2))
  show⟨_,?_,Bt b (gA (c9 (aB rfl) (dD (@g1 h J)) (f:=384) rfl (b8 (aB rfl) (b8 Z (bb (eD (b8 kL (bb kL)))))) j) eI) eI⟩
  clear j Z b
  have V:=QV M.ab.1 m
  have W:=afO V.1 f (ay (Lf++La))
  have A:∀{l:List D}{x:D},l.length<=m->(l++[x]).length<=m+1:=λu=>aC (bC cF) (ek u)
  show⟨M.rest,?_,?_,⟨A H.1,A H.2.1,A H.2.2⟩,⟨?_,λd hd=>(d9.mp hd).elim (M.wa.2 d) (a4 d)⟩,W.1,aC W.2 (ek (aC V.2 U)),λi hi ha=>?_⟩
  .show h.up.set m f=_
   rwa[M.up,<-s,afT]
  .show h.lots.set f _=_
   rwa[M.lots,afV s q]
  .show (h.wa++La).length<=_
   rwa[cF,<-y];show jB P a3
  .show ∃v l,cw (cp (hG h.ab (iD m)) (iD f) (ay (Lf++La))) (iD i)=aa v/\_
   rwa[Cd]
   by_cases e:f=i
   .rwa [aJ (aI iD e)]
    show x2 _ _ ⟨rfl,aY rfl,by rwa[cF,<-y];show jB f3 a3,λd hd=>(d9.mp hd).elim (f4 d) (a4 d)⟩
   .have xF:m≠i:=λQ=>ha.elim (λu=>CZ _ (Q▸u)) λu=>q (s.symm.trans ((aI _ Q).trans (u.trans Q.symm)))
    rwa[aL (λQ=>e (j9 Q)),afN _ _ _ (λQ=>xF (j9 Q))]
    show ix (M.ab.2.2 i hi (ha.imp_left mh)) λv l h1 h2 h3 h4=>x2 v l ⟨h1,h2,aC h3 o,h4⟩
theorem afZ(l:Y.Ok)(B:Bs Y 3 ns wt dp us)(r:Nat):∀(m:Nat)(h:HS)(b:Option D),m+r=ns.length->Mg Y c k ns wt dp us m h ->
 ∃f a,Mg Y c k ns wt dp us ns.length f/\loopGo (λd g o=>(dY (bt 10) d g).bind λg=>ba tb (run (n+4)) Ih g o) ((List.range' m r).map iD) (gT Y (W (ak 1)) o6 o7 o8 o9 b (W (i5 Y ns))) (mk h++J)=W (N,gT Y (W (ak 1)) o6 o7 o8 o9 a (W (i5 Y ns)),mk f++J):=by
 induction r with
 |zero=>showλm h b e M=>x2 h b ⟨(show m=ns.length from e)▸M,rfl⟩
 |succ r i=>
  intro m h b e M
  have j:m+1+r=ns.length:=(gG ..).trans e
  show aV (afY (n:=n) (J:=J) l B M (j▸ew ..) (o6:=o6) (o7:=o7) (o8:=o8) (o9:=o9)) λp q s=>?_
  show jW (i (m+1) p (W (iD m)) j q) λf a t u=>?_
  show x2 f a ⟨t,by rwa[JD,ea];show iE s u⟩
end
structure Sd (Y:Ty) (c:List D) (k:Nat) (ns:List (String×List Nat)) (us:List (List D)) (h:HS):Prop where
 rest:h.cells=c/\h.at_=k/\h.nodes=ns/\h.us=us
 up:h.up=m8 (told Y ns) ns.length ns.length
 lots:h.lots=pE (told Y ns) ns.length ns.length
structure Kn (Y:Ty) (ns:List (String×List Nat)) (kn:List (D×D)):Prop where
 keys:∀p∈kn,∃nd,p.1=a9 nd
 get:∀q v,cw kn (a9 q)=aa v->∃j,j<ns.length/\v=iD j/\fy Y (tm ns j)=fy Y (m7 q.1 (q.2.map (tm ns)))
theorem af0(h:l.map (fy c)=m.map (fy c))(j:∀t∈l,Wd c t)(n:∀t∈m,Wd c t)(r:c.Ok):fy c (m7 d l)=fy c (m7 d m):=by
 have g:∀a b:Pt,fy c a=fy c b->Wd c a->Wd c b->∀w∈c.ws,dX c.T (xy w.1 w.2) a=dX c.T (xy w.1 w.2) b:=λa b e s x w f=>by
  have i:=r.wd w f
  obtain⟨u,y⟩:=fF.mp (s.sm w.1 w.2 i.1 i.2)
  obtain⟨v,z⟩:=fF.mp (x.sm w.1 w.2 i.1 i.2)
  have:=JE.mp e w f
  rw[y,z]at this |-
  show aI W this
 induction l using bH with
 |nil=>induction m using bH with
  |nil=>rfl
  |cons b m=>show aF h.symm (lC _ _)
 |cons a l=>induction m using bH with
  |nil=>show aF h (lC _ _)
  |cons b m=>
   have k:=g a b (jG h).1 (j a (a7 ..)) (n b (a7 ..))
   have h:=(jG h).2
   induction l using bH with
   |nil=>induction m using bH with
    |nil=>show fN λw f=>aI (λo=>(o.bind (c.T.v1 d)).getD cg) (k w f)
    |cons b m=>show aF h.symm (lC _ _)
   |cons p l=>induction m using bH with
    |nil=>show aF h (lC _ _)
    |cons q m=>
     have A:=g p q (jG h).1 (j p (bq _ (a7 ..))) (n q (bq _ (a7 ..)))
     show fN λw f=>by show(sM _ _).getD _=(sM _ _).getD _;rwa[k w f,A w f]
section
variable{n:Nat}{Y:Ty}{c:List D}{k:Nat}{ns:List (String×List Nat)}{wt dp:List Int}{us:List (List D)}{h:HS}{J:St}
theorem Sd.cl(S:Sd Y c k ns us h)(a:i<ns.length):h.cl i=hm (told Y ns) i:=by
 have:=u2 (h:=h) (k:=i) (by rwa[S.up];simpa[m8]using a)
 rw[S.up,qN a,aJ a]at this
 show(L this).symm
theorem Sd.yi(S:Sd Y c k ns us h):h.up.length=ns.length:=by rwa[S.up];show(bN ..).trans gI
theorem Sd.flat(S:Sd Y c k ns us h):Flat h.up:=by rwa[S.up];show Q0 iH
theorem Ce(e:Y.Ok)(B:Bs Y 3 ns wt dp us)(S:Sd Y c k ns us h)(f:ns[i]?=W p):fy Y (m7 p.1 ((p.2.map h.cl).map (tm ns)))=fy Y (tm ns i):=by
 rwa[vd B.low f,dK]
 have l:=(cD.mp f).1
 have a:∀x∈p.2,x<ns.length:=λx b=>by have:=B.low i p f x b;show e9 ‹_› ‹_›
 show af0 ?_ (λt g=>?_) (λt g=>?_) e
 .rwa [dK,dK]
  show fN λx b=>?_
  have d:x<(told Y ns).length:=by rwa[iH];show(a x b)
  simp only[oH]
  rwa[S.cl (a x b),<-od (a x b),<-od (by have:=yf d;rw[iH]at this;show this),Cc d]
 .show jg (g) λx b=>?_
  have d:x<(told Y ns).length:=by rwa[iH];show(a x b)
  simp only[oH]
  rwa[S.cl (a x b)]
  have j:=yf d
  rw[iH]at j
  show(B.wd e _ _ (dP _) j).1
 .show jg (g) λx b=>?_
  show(B.wd e _ _ (dP _) (a x b)).1
theorem Q5(a:i<ns.length)(b:j<ns.length)(e:fy Y (tm ns i)=fy Y (tm ns j)):hm (told Y ns) i=hm (told Y ns) j:=by
 rwa[Ib (by rwa[iH];show a) (by rwa[iH];show b),od a,od b,e]
noncomputable def sJ:Fm:=[W (ak 1),N]
noncomputable def Cf:CS:= cZ (.ex (dB "look_at" (ax 0) (aS (gL .pop (dZ (ax 0) 13) aT) aT))) c7
theorem Q6(n:Nat)(J:St)(h:HS):ev tb (run (n+4)) (dR .Gt (fa dO (dZ (ax 0) 13)) (dI 0)) sJ (mk h++J)=W (aM (I ((h.wa.length:Int)>0)),mk h++J) :=
 fb (d4 (r:= aq h.wa.length) (at_of rfl (@g1 h J) (aQ rfl) rfl) (lj (d7 yh))) cE rfl
theorem af1(M:Y.Ok)(B:Bs Y 3 ns wt dp us):∀(r m:Nat)(h:HS),h.wa.length=r->Sd Y c k ns us h->Kn Y ns h.kn->h.kn.length+r<10000->(∀d∈h.wa,∃j,j<ns.length/\d=iD j) ->
 ∃L,Sd Y c k ns us L/\jk (ev tb (run (n+4)) (dR .Gt (fa dO (dZ (ax 0) 13)) (dI 0))) (ba tb (run (n+4)) Cf) (r+1+m) sJ (mk h++J)=aa (ae,sJ,mk L++J):=by
 intro r
 induction r with
 |zero=>
  intro m h z S K V hw
  have a:=Q6 n J h
  rw[List.eq_nil_of_length_eq_zero z]at a
  rwa[show 0+1+m=(0+m)+1 by show gG ..]
  show⟨h,S,xJ a⟩
 |succ r ih=>
  intro m h z S K V hw
  rcases List.eq_nil_or_concat h.wa with hn|⟨W0,d,e⟩
  .rw [hn]at z;show Eu z
  .rw [zi]at e
   have a:=Q6 n J h
   have hc:446∈lN:=by decide
   rw[e]at a z
   rw[dA (by simp)]at a
   rw[cF,vN]at z
   show bR (hw d (by rwa[e];show fG _ (a7 ..))) λi hi gO=>?_;obtain rfl:=gO
   generalize o:({h with wa:=W0}:HS)=b
   have g:Sd Y c k ns us b:=by rwa[<-o];show⟨S.rest,S.up,S.lots⟩
   have s:b.kn=h.kn:=![<-o]
   have A:b.wa=W0:=![<-o]
   obtain⟨p,Q⟩:∃p,ns[i]?=aa p:=⟨_,dn hi⟩
   have W:=g.yi
   have Z:=Qq (n:=n) (h:=b) (J:=J) (i:=i) (p:=p) g.flat (by rwa[g.rest.2.2.1];show Q) (by show ey ‹_› (gq ‹_›)) (λx N=>by have:=B.low i p Q x N;lia) (by have:=B.two M p (cN Q);show aC ‹_› (by show br ..)) (by rwa[s];show K.keys) (by rwa[s];show bY (ew ..) ‹_›) (λv t=>by
    rw[s]at t
    show eA (K.get _ v t) λj H h2 h3=>?_
    show⟨j,h2,by show ey ‹_› (gq ‹_›),?_⟩
    rwa[g.cl H,g.cl hi]
    show Q5 H hi (h3.trans (Ce M B g Q)))
   have I:ba tb (run (n+4)) Cf sJ (mk h++J)=aa (ae,sJ,mk {b with kn:=l7 b i (p.1,p.2.map b.cl)}++J):=by
    unfold Cf
    show gA (c9 (aB rfl) (dD (@g1 h J)) (f:=363) rfl (bb (gz (r:=iD i) (σ3:=mk b++J) (at_of rfl (@g1 h J) hc rfl) (![d7 (@yh h J)]) fK ?_)) Z) eI
    rwa[Bv (l:=W0) (x:=iD i) ![yh,e],<-o]
    rfl
   have U:Kn Y ns (l7 b i (p.1,p.2.map b.cl))/\(l7 b i (p.1,p.2.map b.cl)).length<=h.kn.length+1:=by
    unfold l7
    rwa[s]
    generalize hq:cw h.kn (a9 (p.1,p.2.map b.cl))=P;induction P with
    |some v=>show⟨K,by dsimp only;show gW _⟩
    |none=>
     dsimp only
     show⟨⟨λx N=>?_,λq v t=>?_⟩,?_⟩
     .have:x.1∈(cp h.kn (a9 (p.1,p.2.map b.cl)) (iD i)).map (·.1):=ij (f:=(·.1)) N
      rw[sA]at this
      split at this
      .show fW (this) λy hy e2=>?_
       rwa[<-e2];show K.keys y hy
      .rcases d9.mp this with u|u
       .show fW (u) λy hy e2=>?_
        rwa[<-e2];show K.keys y hy
       .show ⟨_,bI.mp u⟩
     .rw [Cd]at t
      split at t
      .rename_i e2
       rwa[<-(sr e2)]
       show⟨i,hi,(aH t).symm,(Ce M B g Q).symm⟩
      .show K.get q v t
     .have:=aI tj (sA h.kn (a9 (p.1,p.2.map b.cl)) (iD i))
      rw[bN]at this
      rwa[this]
      split<;>simp
   show bR (ih m {b with kn:=l7 b i (p.1,p.2.map b.cl)} (by show b.wa.length=r;rwa[A];show gs ‹_›) ⟨g.rest,g.up,g.lots⟩ U.1 (bY (aC (kS U.2 r) (bC (kT ..))) ‹_›) (λd hd=>hw d (by rwa[e];show dT _ (by rwa[<-A];show hd)))) λL S' w=>?_
   show⟨L,S',by rwa[show r+1+1+m=(r+1+m)+1 by show gG ..];show(xK a I).trans w⟩
theorem af2(p:Y.Ok)(B:Bs Y 3 ns wt dp us)(M:Mg Y c k ns wt dp us ns.length h):∃g,Sd Y c k ns us g/\run (n+5) 398 [ak 1] (mk h++J)=W (cg,mk g++J):=by
 show Rw M.rest λs t u y z i x=>?_
 have a:=B.len
 have o:2^ns.length<=2^6:=pL (dm _) a.2
 have f:=M.wa.1
 obtain⟨g,S,w⟩:=af1 (n:=n) (J:=J) p B h.wa.length (65535-h.wa.length) h rfl ⟨⟨s,t,u,x⟩,M.up,M.lots⟩ ⟨by rwa[i];show xZ ns,λq v d=>by
  rw[i]at d
  unfold cw at d
  generalize e:cW (eE ns) (a9 q)=l;induction l with
  |none=>rw[e]at d;cases d
  |some j=>
   have m:=B4 e
   rw[e,c5,B3,m]at d
   show⟨j,(cD.mp m).1,(L d).symm,![vd B.low m]⟩⟩ (by rwa[i];simp[eE];show bY (jB a.2 (P f (kr 20 o))) (aQ rfl)) M.wa.2
 show⟨g,S,dw (r:=N) (ρ':=sJ) (by rfl) rfl rfl rfl rfl rfl ?_⟩
 show ba tb (run (n+4)) EZ sJ _=_
 unfold EZ
 show(Bo (b:=Cf) (show jk _ _ LF _ _=_ by rwa[show LF=h.wa.length+1+(65535-h.wa.length)from(aI (· +1) (vB (P f (P (kr 20 o) (aQ rfl:20*2^6<=65535))))).symm.trans (gG ..)];show w)).trans eI
end
theorem af3(n:Nat)(L:List Int)(d:a.Ok):∃(b:Hb)(h:HS),b.k<=20/\b.Ok a 3/\Sd a (L.map aq) b.k b.ns b.us h /\
 run (n+13) 644 [ak 0,a.T.self,ay (a.ops.map λp=> aw [sD p.1,iD p.2]),sD a.leaf,ay (a.ws.map λw=> aw [w.1,w.2])] [eS L 2]=W (aw [ak 1,i5 a b.ns],mk h):=by
 obtain⟨e,g,j,s,o6,t⟩:=afu (n:=n+6) (L:=L) d (o7:=N) (o8:=N) (o9:=N) (o10:=N) (o11:=N)
 show KS (turns (n:=n+4) (L:=L) d (o6:=o6) (o10:=N) (o11:=N) ((bE 3).map λk=> aq (k:Nat)) 0 ⟨2,_,e,g,j⟩ N N N s (aQ rfl) (by decide:2+3*3<=90)) λb o7 o8 o9 u B v=>?_
 have x:=afL (n:=n) (c:=L.map aq) (k:=b.k) d B (o6:=o6) (o7:=o7) (o8:=o8) (o9:=o9) (o10:=N) (o11:=N)
 show jW (afZ (n:=n+8) (J:=[]) d B (c:=L.map aq) (k:=b.k) (o6:=o6) (o7:=o7) (o8:=o8) (o9:=o9) b.ns.length 0 _ N (by lia) (mg0 d B)) λz o10 M l=>?_
 show aV (af2 (n:=n+7) (J:=[]) d B M) λy S m=>?_
 have o:=u0 (n:=n+10) (h:=cB (L.map aq) b.k b.ns b.wt b.dp b.us) (J:=[])
 simp only[eM]at l m o
 have q:=Bs.len B
 show x2 b y ⟨P u (by decide:2+3*3<=20),B,S,dw (r:=W (aw [ak 1,i5 a b.ns])) (ρ':=gT a (W (ak 1)) o6 o7 o8 o9 o10 (W (i5 a b.ns))) (by rfl) rfl rfl rfl rfl rfl ?_⟩
 show ba tb (run (n+12)) E8 (gT a N N N N N N N) _=_
 unfold E8
 show d8 aft ?_
 show(kP (ds:=[sD "x",sD "y",sD a.leaf]) (b6 (eD (b8 kL (b8 kL (bb (aB rfl))))) rfl) t).trans ?_
 show(kP (b:=yc) (qv (i:=3) cE (by lia)) v).trans ?_
 show d8 x ?_
 show(kP (b:=Ih) (qv (i:=b.ns.length) (c9 (aB rfl) (dD (sH _)) (f:=341) rfl fK o) (by lia)) (show loopGo _ ((bE b.ns.length).map λk=> aq (k:Nat)) _ _=_ by rwa[JF];show l)).trans ?_
 show gA (c9 (aB rfl) (dD (sH _)) (f:=398) rfl fK m) (di (eD (b8 (aB rfl) (bb (aB rfl)))))
section
variable{n:Nat}{Y:Ty}{c:List D}{k:Nat}{ns:List (String×List Nat)}{wt dp:List Int}{us:List (List D)}{h:HS}{J:St}
def canon(Y:Ty)(ns:List (String×List Nat))(p:String×List Nat):String×List Nat:=(p.1,p.2.map (hm (told Y ns)))
def oe(Y:Ty)(ns:List (String×List Nat))(o:String)(ks:List Nat):Option Nat:=(ns.findIdx? λp=>I (canon Y ns p=(o,ks))).map (hm (told Y ns))
theorem Ii(S:Sd Y c k ns us h)(B:Bs Y 3 ns wt dp us){i:Nat}(a:ns[i]?=W p):canon Y ns p=(p.1,p.2.map h.cl):=by
 have d:=(cD.mp a).1
 unfold canon
 congr 1
 show fN λx b=>(S.cl (by have:=B.low i p a x b;show e9 ‹_› ‹_›)).symm
theorem Ij(d:Y.Ok)(B:Bs Y 3 ns wt dp us)(S:Sd Y c k ns us h)(a:ns[i]?=W p)(b:ns[j]?=W q)(e:canon Y ns p=canon Y ns q):hm (told Y ns) i=hm (told Y ns) j:=by
 have f:=(cD.mp a).1
 have g:=(cD.mp b).1
 show Q5 f g ?_
 rwa[<-Ce d B S a,<-Ce d B S b]
 rw[Ii S B a,Ii S B b]at e
 have:=cO e
 rwa[this.1,this.2]
theorem ve(f:Y.Ok)(B:Bs Y 3 ns wt dp us)(S:Sd Y c k ns us h){ks:List Nat} :oe Y ns o ks=W a↔∃i p,ns[i]?=W p/\canon Y ns p=(o,ks)/\hm (told Y ns) i=a:=by
 unfold oe
 constructor
 .intro e
  show eG (e) λi g l=>?_
  show aV (De.mp g) λb d z=>?_
  show⟨i,ns[i],dn b,bS d,l⟩
 .rintro ⟨i,p,b,d,m⟩
  cases q:ns.findIdx? λp=>I (canon Y ns p=(o,ks))with
  |none=>
   have:=IY.mp q p (cN b)
   show aF d (of_decide_eq_false this)
  |some j=>
   show aV (De.mp q) λr s z=>?_
   have:=Ij f B S (dn r) b ((bS s).trans d.symm)
   rwa[sL,this,m]
theorem yj(S:Sd Y c k ns us h) :a∈h.cls↔a<ns.length/\hm (told Y ns) a=a:=by
 unfold HS.cls
 rwa[ow,fM,S.yi,bX]
 constructor
 .rintro ⟨b,d⟩;show⟨b,by rwa[<-S.cl b];show d⟩
 .rintro ⟨b,d⟩;show⟨b,by rwa[S.cl b];show d⟩
theorem vg(S:Sd Y c k ns us h)(d:i<ns.length):hm (told Y ns) i∈h.cls:=by
 have a:i<(told Y ns).length:=by rwa[iH];show d
 have b:=yf a
 rw[iH]at b
 show(yj S).mpr ⟨b,yg a⟩
theorem af4(d:Y.Ok)(B:Bs Y 3 ns wt dp us)(r:i<3)(s:j<3)(e:hm (told Y ns) i=hm (told Y ns) j):i=j:=by
 show eA (B.rest) λrest q z z=>?_
 have y:=B.len
 rw[Ib (by rwa[iH];lia) (by rwa[iH];lia),od (by lia),od (by lia)]at e
 have t:∀i o,ns[i]?=W (o,[])->fy Y (tm ns i)=Y.ws.map λw=>((Y.T.v0 o).or (xy w.1 w.2 o)).getD cg:=λi o h=>by
  rwa[vd B.low h];rfl
 have a:=t 0 "x" (![q])
 have b:=t 1 "y" (![q])
 have f:=t 2 Y.leaf (![q])
 obtain⟨v,u⟩:=fF.mp d.m5.1
 rw[d.m5.2.1]at a
 rw[d.m5.2.2]at b
 have a:fy Y (tm ns 0)=Y.ws.map (·.1):=a
 have b:fy Y (tm ns 1)=Y.ws.map (·.2):=b
 simp only[u,Ir,qP]at f
 have x:=d.ne.1
 have p:=d.ne.2 v u
 have g:∀k:Fin 3,k.1=0\/k.1=1\/k.1=2:=aQ rfl
 have l:=g ⟨i,r⟩
 have m:=g ⟨j,s⟩
 dsimp only at l m
 clear r;rcases l with rfl|rfl|rfl<;>(clear s;rcases m with rfl|rfl|rfl)
 .rfl
 .rw [a,b]at e;show aF e x
 .rw [a,f]at e;show aF e p.1
 .rw [a,b]at e;show aF e.symm x
 .rfl
 .rw [b,f]at e;show aF e p.2
 .rw [a,f]at e;show aF e.symm p.1
 .rw [b,f]at e;show aF e.symm p.2
 .rfl
def qO(Y:Ty)(ns:List (String×List Nat))(a:Nat):List Nat:=a::(bE ns.length).filter λj=>I (j≠a/\hm (told Y ns) j=a)
theorem vh(e:a<ns.length)(f:hm (told Y ns) a=a):m∈qO Y ns a↔m<ns.length/\hm (told Y ns) m=a:=by
 unfold qO
 rwa[bB,ow,fM,decide_eq_true_eq]
 constructor
 .rintro (rfl|⟨b,z,d⟩)
  .show ⟨e,f⟩
  .show ⟨b,d⟩
 .rintro ⟨b,d⟩
  by_cases q:m=a
  .show aY q
  .show aW ⟨b,q,d⟩
theorem af5(j:Y.Ok)(B:Bs Y 3 ns wt dp us)(f:a<ns.length)(g:hm (told Y ns) a=a):(qO Y ns a).length<=4:=by
 have p:=B.len
 have l:(qO Y ns a).Nodup:=by
  unfold qO
  rwa[i9]
  show⟨λu=>?_,Kp _ Dx⟩
  rw[ow,decide_eq_true_eq]at u
  show u.2.1 rfl
 have:∃b,∀x∈qO Y ns a,x<3->x=b:=by
  by_cases q:∃b∈qO Y ns a,b<3
  .show aV (q) λb e m=>?_
   show⟨b,λx d i=>af4 j B i m ?_⟩
   rwa[((vh f g).mp d).2,((vh f g).mp e).2]
  .show ⟨0,λx d i=>aF ⟨x,d,i⟩ q⟩
 obtain⟨b,o⟩:=this
 have:=oJ (S:=[b,3,4,5]) l λx d=>by
  have e:=((vh f g).mp d).1
  by_cases q:x<3
  .rwa [o x d q];show a7 ..
  .have:x=3\/x=4\/x=5:=(aQ rfl:∀k:Fin 6,¬k.1<3->k.1=3\/k.1=4\/k.1=5) ⟨x,bg e B.len.2⟩ q
   clear d q e;rcases this with rfl|rfl|rfl<;>(first|show bq _ (a7 ..)|show bq _ (bq _ (a7 ..))|simp)
 assumption
theorem af6(v:Y.Ok)(B:Bs Y 3 ns wt dp us)(S:Sd Y c k ns us h):∃b:Nat->List (String×List Nat),(∀a∈h.cls,∀n J,run (n+4) 424 [ak 1,iD a] (mk h++J)=W (ay ((b a).map a9),mk h++J)) /\
 (∀a p,p∈b a↔a∈h.cls/\∃i q,ns[i]?=W q/\hm (told Y ns) i=a/\canon Y ns q=p)/\(∀a,(b a).Nodup)/\∀a,(b a).length<=4:=by
 have ex:∀a,∃L:List (String×List Nat),(a∈h.cls->∀n J,run (n+4) 424 [ak 1,iD a] (mk h++J)=W (ay (L.map a9),mk h++J))/\(∀p,p∈L↔a∈h.cls/\∃i q,ns[i]?=W q/\hm (told Y ns) i=a/\canon Y ns q=p)/\L.Nodup/\L.length<=4:=λa=>by
  by_cases g:a∈h.cls
  .show cR ((yj S).mp g) λd j=>?_
   have f:h.lots.length=h.us.length:=by rwa[S.lots,S.rest.2.2.2,B.ul.1];show(bN ..).trans gI
   obtain⟨L,z,A,Q,H⟩:=ad6 (h:=h) (i:=a) (a:=a) (l:=qO Y ns a) S.flat (![S.up,qN d,aJ d,j]) f (![S.lots,Ie d]) (af5 v B d j) (λm=>canon Y ns (ns.getD m ("",[]))) (λm r=>by
    obtain⟨s,w⟩:=(vh d j).mp r
    have o:ns[m]?=W (ns.getD m ("",[])):=by rwa[ja,dn s];rfl
    generalize ns.getD m ("",[])=p at o
    show⟨p,by rwa[S.rest.2.2.1];show o,λx I=>by rwa[S.yi];have:=B.low m p o x I;show e9 ‹_› ‹_›,by have:=B.two v p (cN o);show P ‹_› (br ..),Ii S B o⟩)
   show⟨L,λZ=>z,λp=>?_,Q,H⟩
   rwa[A]
   constructor
   .rintro ⟨m,t,e⟩
    obtain⟨s,w⟩:=(vh d j).mp t
    show⟨g,m,_,![ja,dn s],w,e⟩
   .rintro ⟨Z,i,q,y,K,M⟩
    have N:=(cD.mp y).1
    show⟨i,(vh d j).mpr ⟨N,K⟩,?_⟩
    rwa[ja,y];show M
  .show ⟨[],λu=>aF u g,λp=>⟨λu=>aF ‹_› bc,λu=>aF u.1 g⟩,kU,cQ _⟩
 show⟨λa=>Classical.choose (ex a),λa g=>(zU (ex a)).1 g,λa p=>(zU (ex a)).2.1 p,λa=>(zU (ex a)).2.2.1,λa=>(zU (ex a)).2.2.2⟩
theorem af7(z:Y.Ok)(B:Bs Y 3 ns wt dp us)(S:Sd Y c k ns us h){d:Nat->List (String×List Nat)}(w:∀a p,p∈d a↔a∈h.cls/\∃i q,ns[i]?=aa q/\hm (told Y ns) i=a/\canon Y ns q=p)(K:∀a,(d a).Nodup):NC d (oe Y ns) h.cls where
 hc a o L:=by
  rwa[w,ve z B S]
  constructor
  .rintro ⟨X,i,q,l,t,s⟩;show⟨i,q,l,s,t⟩
  .rintro ⟨i,q,l,s,t⟩
   show⟨?_,i,q,l,t,s⟩
   rwa[<-t];show vg S (cD.mp l).1
 u6 o L a e:=by
  show eX ((ve z B S).mp e) λi q l t s=>?_
  have M:=(cD.mp l).1
  show⟨by rwa[<-s];show vg S M,λx f=>?_⟩
  rw[<-(cO t).2]at f
  show jg (f) λy A=>?_
  show vg S (by have:=B.low i q l y A;lia)
 H2 o m:=by
  have u:(h.cls.flatMap d).Nodup:=by
   unfold List.Nodup
   rwa[Jx]
   show⟨λa X=>K a,?_⟩
   show Km (λ{a b} Q x f y A e=>?_) (Kp _ Dx:h.cls.Nodup)
   subst e
   obtain⟨X,i,q,l,t,s⟩:=(w a x).mp f
   obtain⟨X,j,r,N,P,U⟩:=(w b x).mp A
   show Q (by rwa[<-t,<-P];show Ij z B S l N (s.trans U.symm))
  have g:∀x∈(h.cls.flatMap d).filter (λn=>n.1==o&&n.2.length==m),∃q∈ns,canon Y ns q=x/\q.1=o/\q.2.length=m:=λx f=>by
   rw[ow,pQ]at f
   obtain⟨⟨a,X,V⟩,f⟩:=f
   obtain⟨X,i,q,l,t,rfl⟩:=(w a x).mp V
   simp only[eu,bX,canon,bN]at f
   show⟨q,cN l,rfl,f.1,f.2⟩
  show eA (B.rest) λrest W X Z=>?_
  induction m using dS with
  |zero=>
   have:=oJ (S:=[(o,[])]) (u.sublist JG) λx f=>by
    show zZ (g x f) λq X H I s=>?_;clear g f;obtain rfl:=H;obtain rfl:=I
    have:q.2=[]:=ml.mp s
    simp[canon,this]
   simp only[vN]at this
   show aC this (dm _)
  |succ m=>
   have:=oJ (S:=rest.map (canon Y ns)) (u.sublist JG) λx f=>by
    obtain⟨q,v,rfl,rfl,s⟩:=g x f
    show ij ?_
    rw[W]at v
    simp only[bB]at v
    clear g f;rcases v with rfl|rfl|rfl|v
    .trivial
    .trivial
    .trivial
    .show v
   rw[bN]at this
   show aC this Z
theorem af8(B:Bs Y 3 ns wt dp us)(f:Y.Ok)(S:Sd Y c k ns us h){b:Nat->List (String×List Nat)}(g:∀a∈h.cls,∀n J,run (n+4) 424 [ak 1,iD a] (mk h++J)=W (ay ((b a).map a9),mk h++J))(e:∀a p,p∈b a↔a∈h.cls/\∃i q,ns[i]?=W q/\hm (told Y ns) i=a/\canon Y ns q=p)(j:∀a,(b a).length<=4):MS (n+4) (mk h++J) b h.cls where
 heap:=⟨_,g1⟩
 P0 a l r:=by rwa[iM];show g a l n _
 P1:=j
 P2 a x d:=by
  obtain⟨w,i,q,g1,w,rfl⟩:=(e a x).mp d
  have:=B.two f q (cN g1)
  simp only[canon,bN];show P ‹_› (aQ rfl)
 kids a x d y m:=by
  obtain⟨w,i,q,g1,w,rfl⟩:=(e a x).mp d
  show jg (m) λz o=>?_
  have s:=(cD.mp g1).1
  show vg S (by have:=B.low i q g1 z o;show e9 ‹_› ‹_›)
theorem Q7(B:Bs Y 3 ns wt dp us)(S:Sd Y c k ns us h):h.cls.length<=6:=by
 have:=vQ (λa=>h.cl a==a) (bE h.up.length)
 rw[gI]at this
 show P this (P (bC S.yi) B.len.2)
def fS(Y:Ty)(ns:List (String×List Nat)):List Nat:=(bE ns.length).map (hm (told Y ns))
theorem af9(S:Sd Y c k ns us h) :a∈fS Y ns↔a∈h.cls:=by
 unfold fS
 rwa[b3]
 constructor
 .rintro ⟨i,b,rfl⟩;show vg S (fM.mp b)
 .intro u
  show cR ((yj S).mp u) λd e=>?_
  show⟨a,fM.mpr d,e⟩
theorem aga(B:Bs Y 3 ns wt dp us)(S:Sd Y c k ns us h):∃L:List Nat,qg ((fS Y ns).map iD)=W (L.map iD)/\(∀x,x∈L↔x∈h.cls)/\L.Nodup/\L.length<=6:=by
 have g:=B.len
 show k0 (Qp (ks:=fS Y ns) (by simp[fS];lia)) λL d e a=>?_
 have b:∀x,x∈L↔x∈h.cls:=λx=>![e,af9 S]
 show⟨L,d,b,a,P (oJ a λx f=>(b x).mp f) (Q7 B S)⟩
end
noncomputable def kh(c:List (String×List Nat))(t:List (String×Nat)):Pt->Pt
 |.var x=>tm c ((t.lookup x).getD 0)
 |.c0 o=> jt o
 |.c1 o a=> ju o (kh c t a)
 |.c2 o a b=> fc o (kh c t a) (kh c t b)
section
variable{n:Nat}{Y:Ty}{c:List D}{k:Nat}{ns:List (String×List Nat)}{wt dp:List Int}{us:List (List D)}{h:HS}{J:St}{T:D}{σ:St}
theorem agb{x:D}{a:List (D×D)}(h:∀p∈a,run n 664 [ak 1,p.1,T] σ=W (p.2,σ)):
 ev tb (run n) (eH ah [N,N,N,W 0,W 2] (bt 1) (dW (mL (ax 1) (dI 1))) aT (f6 664 (aS (ax 3) (aS (ax 1) (aS (ax 4) aT))))) [W (ak 1),W (aw (x::a.map (·.1))),W T,N] σ=W (ay (a.map (·.2)),σ):=by
 have G:∀p∈a,((run n 664 [ak 1,p.1,T] σ).map (·.1)).getD cg=p.2:=λp b=>aI (λo=>(o.map (·.1)).getD cg) (h p b)
 show iP ?_ (aI (λl=>W (ay l,σ)) ((dK ..).trans (fN G):(a.map (·.1)).map (λd=>((run n 664 [ak 1,d,T] σ).map (·.1)).getD cg)=_))
 show jq (ds:=a.map (·.1)) ?_ λd f=>?_
 .show b6 (qB (aB rfl) cE qD) rfl
 show fW f λp b e=>?_
 rwa[<-e]
 show⟨[N,W p.1,N,W (ak 1),W T],rfl,jr (b8 (aB rfl) (b8 (aB rfl) (bb (aB rfl)))) ((h p b).trans (aI (λx=>W (x,σ)) (G p b).symm))⟩
theorem Ik{o:String}{ts:List (D×D)}(a:qH o=U)(h:∀p∈ts,run n 664 [ak 1,p.1,T] σ=W (p.2,σ))(d:ts.length<=10):
 run (n+1) 664 [ak 1,aw (sD o::ts.map (·.1)),T] σ=W (aw (sD o::ts.map (·.2)),σ):=by
 show BY a λv b a=>?_
 have t:=qL (cal:=run n) (σ:=σ) (i:=1) (ρ:=[W (ak 1),W (aw (sD o::ts.map (·.1))),W T,N]) rfl b
 rw[a]at t
 show dw (r:=W (aw (sD o::ts.map (·.2)))) (ρ':=[W (ak 1),W (aw (sD o::ts.map (·.1))),W T,N]) (by rfl) rfl rfl rfl rfl rfl ?_
 show ba tb (run n) wZ [W (ak 1),W (aw (sD o::ts.map (·.1))),W T,N] σ=_
 unfold wZ
 show de t (di (et (Bp (aB rfl) cE (r:= aw [sD o]) (aJ (e:=N) (by decide:(0:Int)<=1))) (d4 (agb h) rfl) ?_))
 show px (by simp only[bN,fC,mr];lia)
theorem agc(y:iT h.nodes)(z:∀p∈h.nodes,p.2.length<=2)(A:h.nodes.length<=50)(g:List (String×Nat))(t:Pt):∀(n:Nat),t.j8=U->t.dep+1<=n->(∀x∈t.vars,∃i,g.lookup x=W i/\i<h.nodes.length)->run (n+1) 664 [ak 1,t.toD,eR g] (mk h++J)=W ((kh h.nodes g t).toD,mk h++J):=by
 induction t with
 |var x=>
  intro n l e q
  show gu n (vH (show 2<=n from e)) λm=>?_
  show aV (q x (a7 ..)) λi v s=>?_
  rwa[show kh h.nodes g (dE x)=tm h.nodes i from aI (λo:Option Nat=>tm h.nodes (o.getD 0)) v]
  show dw (r:=W (tm h.nodes i).toD) (ρ':=[W (ak 1),W (dE x).toD,W (eR g),N]) (by rfl) rfl rfl rfl rfl rfl ?_
  show ba tb (run (m+2)) wZ [W (ak 1),W (dE x).toD,W (eR g),N] _=_
  unfold wZ
  show mX (qL (cal:=run (m+2)) (σ:=mk h++J) (i:=1) (ρ:=[W (ak 1),W (dE x).toD,W (eR g),N]) rfl (bS l)) (di (c9 (at_of rfl (@g1 h J) (aQ rfl) rfl) (dD (@g2 h J)) (f:=174) rfl (bb (cX (r:=iD i) (aB rfl) (cX (aB rfl) cE (r:=sD x) rfl) ?_)) (QR (n:=m) (h:=h) (i:=i) y s (eL (bg s A)) z (J:=J))))
  show pv (BV x g) (![u5,v])
 |c0 o=>showλn l k k=>Ik (ts:=[]) l (λk h=>aF h bc) (cQ _)
 |c1 o a i=>
  intro n l e q
  induction n using dS with
  |zero=>show aF e (lA _)
  |succ m=>
  have w:=i m (au l).2 (lB e) q
  show Ik (ts:=[(a.toD,(kh h.nodes g a).toD)]) (au l).1 (λd e=>uW (P:=λp:D×D=>run (m+1) 664 [ak 1,p.1,eR g] (mk h++J)=W (p.2,mk h++J)) e ⟨w,trivial⟩) (br 1 9)
 |c2 o a b i j=>
  intro n l e q
  induction n using dS with
  |zero=>show aF e (lA _)
  |succ m=>
  have e:=lB e
  have w:=i m (au (au l).1).2 (aC (ek (nr ..)) e) λx u=>q x (dT _ u)
  have B:=j m (au l).2 (aC (ek (nt ..)) e) λx u=>q x (fG _ u)
  show Ik (ts:=[(a.toD,(kh h.nodes g a).toD),(b.toD,(kh h.nodes g b).toD)]) (au (au l).1).1 (λd e=>uW (P:=λp:D×D=>run (m+1) 664 [ak 1,p.1,eR g] (mk h++J)=W (p.2,mk h++J)) e ⟨w,B,trivial⟩) (br 2 8)
theorem agd(B:Bs Y 3 ns wt dp us)(g:Y.Ok)(t:Pt):(∀x∈t.vars,∃i,d.lookup x=W i/\i<ns.length)->(kh ns d t).dep<=t.dep+5/\(kh ns d t).gr=U:=by
 induction t with
 |var x=>
  intro h
  show aV (h x (a7 ..)) λi p e=>?_
  rwa[show kh ns d (dE x)=tm ns i from aI (λo:Option Nat=>tm ns (o.getD 0)) p]
  have:=B.wd g (i+1) i (dP _) e
  have:=B.len
  show⟨by show _<=6;lia,(B.wd g (i+1) i (dP _) e).1.gr⟩
 |c0 o=>showλz=>⟨ew ..,rfl⟩
 |c1 o a i=>showλh=>⟨ek (i h).1,(i h).2⟩
 |c2 o a b i j=>
  intro h
  have l:=i λx f=>h x (dT _ f)
  have m:=j λx f=>h x (fG _ f)
  show⟨ek (jR.mpr ⟨P l.1 (kS (nr ..) 5),P m.1 (kS (nt ..) 5)⟩),dN l.2 m.2⟩
theorem Cg(a:Y.Ok)(B:Bs Y 3 ns wt dp us)(d:i<ns.length)(f:j<ns.length)(e:hm (told Y ns) i=hm (told Y ns) j)(g:w∈Y.ws):∃v,dX Y.T (xy w.1 w.2) (tm ns i)=W v/\dX Y.T (xy w.1 w.2) (tm ns j)=W v/\Y.T.cm 12 v:=by
 have b:=a.wd w g
 have l:=B.len
 have p:=B.wd a (i+1) i (by lia) d
 have q:=B.wd a (j+1) j (by lia) f
 show aV (ye a b.1 b.2 p.1) λu m r=>?_
 show aV (ye a b.1 b.2 q.1) λv o z=>?_
 rw[Ib (by rwa[iH];show d) (by rwa[iH];show f),od d,od f]at e
 have:=JE.mp e w g
 rw[m,o]at this
 have:u=v:=this
 show⟨u,m,![o,this],a.ok.up _ _ _ r (by lia)⟩
theorem yk(b:Y.Ok)(B:Bs Y 3 ns wt dp us)(S:Sd Y c k ns us h){d:List Nat}(e:oe Y ns o d=W a):a<ns.length:=by
 show eX ((ve b B S).mp e) λi p f z g=>?_
 rwa[<-g];show((yj S).mp (vg S (cD.mp f).1)).1
theorem Il(b:Y.Ok)(B:Bs Y 3 ns wt dp us)(S:Sd Y c k ns us h)(q:w∈Y.ws){g:List Nat}{P:Prop}(e:oe Y ns o g=W a)(K:a<ns.length->∀(l:List Nat) v,l.map (hm (told Y ns))=g->(∀z∈l,z<ns.length)->dX Y.T (xy w.1 w.2) (m7 o (l.map (tm ns)))=W v->dX Y.T (xy w.1 w.2) (tm ns a)=W v->P):P:=by
 show eX ((ve b B S).mp e) λi p d j r=>?_
 have f:=(cD.mp d).1
 show k0 (Cg b B f (yk b B S e) (![<-r,yg (by rwa[iH];show f)]) q) λv m s y=>?_
 rw[vd B.low d,show p.1=o from aI Prod.fst j]at m
 show K (yk b B S e) p.2 v (aI Prod.snd j) (λz t=>e9 (B.low i p d z t) f) m s
theorem Im(b:Y.Ok)(B:Bs Y 3 ns wt dp us)(d:w∈Y.ws)(e:hm (told Y ns) z=u)(a:z<ns.length)(f:u<ns.length):dX Y.T (xy w.1 w.2) (tm ns u)=dX Y.T (xy w.1 w.2) (tm ns z) :=
 k0 (Cg b B a f (![<-e,yg (by rwa[iH];show a)]) d) λy g i y=>i.trans g.symm
theorem age(m:Y.Ok)(B:Bs Y 3 ns wt dp us)(S:Sd Y c k ns us h)(p:w∈Y.ws){t:List (String×Nat)}(I:∀x∈["?a", "?b", "?c"],∀i,t.lookup x=aa i->i<ns.length/\ρ x=dX Y.T (xy w.1 w.2) (tm ns i)) (r:Pt):
 ∀(a:Nat),r.uX=af->(∀x∈r.vars,x∈["?a", "?b", "?c"])->cM (oe Y ns) (λx=>t.lookup x) r=aa a->a<ns.length/\dX Y.T ρ r=dX Y.T (xy w.1 w.2) (tm ns a):=by
 induction r with
 |var x=>showλa n f e=>I x (f x (a7 ..)) a e
 |c0 o=>
  showλa b n e=>Il m B S p e λs l v g n d A=>⟨s,?_⟩
  rw[Dr.mp g]at d
  show(aI (·.or (ρ o)) (Iu.symm.trans ((aI (Y.T.v0 o).or ((aL λe=>(bS b).1 e).trans (aL λe=>(bS b).2 e):xy w.1 w.2 o=ae)).symm.trans d))).trans A.symm
 |c1 o x i=>
  showλa b f e=>bU e λu H e=>Il m B S p e λs l v g q d A=>⟨s,?_⟩
  show aV (JH.mp g) λz K L=>?_
  rw[K]at d q
  show(aI (·.bind (Y.T.v1 o)) ((i u b f H).2.trans (Im m B p L (q z (a7 ..)) (i u b f H).1))).trans (d.trans A.symm)
 |c2 o x y i j=>
  showλa b f e=>bU e λu H e=>bU e λU M e=>Il m B S p e λs l v g q d A=>⟨s,?_⟩
  have P:=i u (au b).1 (λz N=>f z (dT _ N)) H
  have Q:=j U (au b).2 (λz N=>f z (fG _ N)) M
  show eX (List.map_eq_cons_iff.mp g) λz l' K L g=>?_
  show aV (JH.mp g) λV W Z=>?_
  rw[K,W]at d q
  show sM _ _=_
  rwa[P.2,Q.2,Im m B p L (q z (a7 ..)) P.1,Im m B p Z (q V (bq _ (a7 ..))) Q.1]
  show d.trans A.symm
theorem agf(y:Y.Ok){w:D×D}(q:∀x,x∉["?a", "?b", "?c"]->ρ x=N) (g:Pt):∀(v:D),g.j8=U->(∀x∈g.vars,∃i,t.lookup x=W i/\ρ x=dX Y.T (xy w.1 w.2) (tm ns i))->dX Y.T ρ g=W v->dX Y.T (xy w.1 w.2) (kh ns t g)=W v:=by
 induction g with
 |var x=>showλv z d e=>aV (d x (a7 ..)) λi r h=>(aI (λo:Option Nat=>dX Y.T (xy w.1 w.2) (tm ns (o.getD 0))) r).trans (h.symm.trans e)
 |c0 o=>
  intro v f z e
  have:o∉["?a", "?b", "?c"]:=λu=>uW (P:=λo=>(jt o).j8=U->False) u ⟨by decide,by decide,by decide,trivial⟩ f
  show aI (·.or (xy w.1 w.2 o)) (Iu.symm.trans ((aI (Y.T.v0 o).or (q o this)).symm.trans e))
 |c1 o a i=>showλv f d e=>bU e λu l e=>(aI (·.bind (Y.T.v1 o)) (i u (au f).2 d l)).trans e
 |c2 o a b i j=>
  showλv f d e=>bU e λu l e=>bU e λs m e=>?_
  show sM _ _=_
  rwa[show dX Y.T (xy w.1 w.2) (kh ns t a)=_ from i u (au (au f).1).2 (λx p=>d x (dT _ p)) l,j s (au f).2 (λx p=>d x (fG _ p)) m]
  show e
theorem agg(m:Y.Ok)(B:Bs Y 3 ns wt dp us)(S:Sd Y c k ns us h)(U:pz Y.T (b,d))(V:b.uX=af)(K:∀x∈b.vars,x∈["?a", "?b", "?c"]) (W:d.j8=af) (M:∀x∈d.vars,x∈b.vars) (q:cM (oe Y ns) (λx=>t.lookup x) b=aa a)
 (z:∀x i,t.lookup x=aa i->i<ns.length) (Z:∀x∈b.vars,(t.lookup x).isSome=af):a<ns.length/\(∀w∈Y.ws,dX Y.T (xy w.1 w.2) (kh ns t d)=dX Y.T (xy w.1 w.2) (tm ns a)):=by
 have p:a<ns.length:=by
  induction b using sj with
  |var x=>show z x a q
  |c0 o=>show yk m B S q
  |c1 o x=>show bU q λu n e=>yk m B S e
  |c2 o x y=>show bU q λu n e=>bU e λu' n e=>yk m B S e
 show⟨p,λw Q=>?_⟩
 obtain⟨A,H⟩:=fF.mp m.m5.1
 have d0:=m.ok.up _ 12 _ (m.ok.uU _ _ H) (dm _)
 let f:String->D:=λx=>((t.lookup x).bind λi=>dX Y.T (xy w.1 w.2) (tm ns i)).getD A
 have g:∀x i,t.lookup x=aa i->dX Y.T (xy w.1 w.2) (tm ns i)=aa (f x)/\Y.T.cm 12 (f x):=λx i e=>by
  show eA (Cg m B (z x i e) (z x i e) rfl Q) λv r n s3=>?_
  have:f x=v:=by show((t.lookup x).bind _).getD A=v;rwa[e];show aI (·.getD A) r
  rwa[this];show⟨r,s3⟩
 have j:∀x,Y.T.cm 12 (f x):=λx=>by
  generalize e:t.lookup x=I;induction I with
  |some i=>show(g x i e).2
  |none=>
   show Y.T.cm 12 (((t.lookup x).bind _).getD A)
   rwa[e];show d0
 have s:∀x∈["?a", "?b", "?c"],r3 (f "?a") (f "?b") (f "?c") x=aa (f x):=λx l=>by
  show uW (P:=λx=>r3 (f "?a") (f "?b") (f "?c") x=aa (f x)) l ⟨rfl,rfl,rfl,trivial⟩
 have L:=(age m B S Q (t:=t) (ρ:=r3 (f "?a") (f "?b") (f "?c")) (λx l i e=>⟨z x i e,![s x l,(g x i e).1]⟩) b a V K q).2
 show eA (Cg m B p p rfl Q) λv r n n=>?_
 rw[r]at L
 rwa[r]
 show agf m (ρ:=r3 (f "?a") (f "?b") (f "?c")) (λx l=>?_) d v W (λx l=>?_) (U 12 _ _ _ v (j "?a") (j "?b") (j "?c") L)
 .simp only [bB,bc,or_false,not_or]at l
  show(aL λe=>l.1 e).trans ((aL λe=>l.2.1 e).trans (aL λe=>l.2.2 e))
 .obtain ⟨i,N⟩:=fF.mp (Z x (M x l))
  show⟨i,N,![s x (K x (M x l)),(g x i N).1]⟩
end
section
variable{n:Nat}{Y:Ty}{c:List D}{k:Nat}{ns:List (String×List Nat)}{wt dp:List Int}{us:List (List D)}{h:HS}{J:St}{σ:St}
def lw(sc:D)(Y:Ty)(ns:List (String×List Nat))(o8 o9 o10 o11 o12 o13 o14 o15 o16 o17 o18:Option D):Fm :=
 [W sc,W (ak 0),W Y.T.self,W (ay (Y.ops.map λp=> aw [sD p.1,iD p.2])),W (sD Y.leaf),W (ay (Y.ws.map λw=> aw [w.1,w.2])),W (ak 1),W (i5 Y ns),o8,o9,o10,o11,o12,o13,o14,o15,o16,o17,o18,N,N,N,N,N,N,N,N,N,N,N,N,N,N]
noncomputable def eg(Y:Ty)(ns:List (String×List Nat)):Nat->List (D×D)
 |0=>[]
 |m+1=>cp (eg Y ns m) (a9 (canon Y ns (ns.getD m ("",[])))) (iD (hm (told Y ns) m))
theorem Q8(m:Nat):(∀p∈eg Y ns m,∃g,p.1=a9 g)/\(eg Y ns m).length<=m:=by
 induction m with
 |zero=>show⟨λz h=>aF h bc,bG _⟩
 |succ m a=>
  have e:=sA (eg Y ns m) (a9 (canon Y ns (ns.getD m ("",[])))) (iD (hm (told Y ns) m))
  show⟨λp i=>?_,?_⟩
  .have:p.1∈(eg Y ns (m+1)).map (·.1):=ij (f:=(·.1)) i
   rw[show(eg Y ns (m+1)).map (·.1)=_ from e]at this
   split at this
   .show fW (this) λq b d=>?_
    rwa[<-d];show a.1 q b
   .rcases d9.mp this with u|u
    .show fW (u) λq b d=>?_
     rwa[<-d];show a.1 q b
    .show ⟨_,bI.mp u⟩
  .show P P5 (ek a.2)
theorem agh(m:Nat):(∀q v,cw (eg Y ns m) (a9 q)=W v->∃i,i<m/\canon Y ns (ns.getD i ("",[]))=q/\v=iD (hm (told Y ns) i))/\(∀i,i<m->∃v,cw (eg Y ns m) (a9 (canon Y ns (ns.getD i ("",[]))))=W v):=by
 induction m with
 |zero=>show⟨λq v h=>nn ‹_›,λi h=>aF h (i7 _)⟩
 |succ m a=>
  show⟨λq v h=>?_,λi b=>?_⟩
  .rw [show cw (eg Y ns (m+1)) _=_ from Cd ..]at h
   split at h
   .rename_i e
    show⟨m,dP _,sr e,(L h).symm⟩
   .show eA (a.1 q v h) λi g d f=>?_
    show⟨i,jQ ‹_›,d,f⟩
  .rwa [show cw (eg Y ns (m+1)) _=_ from Cd ..]
   split
   .show ⟨_,rfl⟩
   .rename_i e
    show a.2 i ?_
    rcases C2.mp b with u|u
    .show u
    .clear a b;subst u;show aF rfl e
theorem Io(a:i<ns.length):ns[i]?=W (ns.getD i ("",[])):=by
 rwa[ja,dn a];rfl
theorem agi(d:Y.Ok)(B:Bs Y 3 ns wt dp us)(S:Sd Y c k ns us h):m3 (eg Y ns ns.length) (oe Y ns) where
 keys:=(Q8 ns.length).1
 get o ks:=by
  have g:=agh (Y:=Y) (ns:=ns) ns.length
  generalize e:oe Y ns o ks=b;induction b with
  |some a=>
   show eX ((ve d B S).mp e) λi p f s t=>?_
   have u:ns.getD i ("",[])=p:=by rwa[ja,f];rfl
   obtain⟨v,l⟩:=g.2 i ((cD.mp f).1)
   rw[u,s]at l
   show eA (g.1 _ _ l) λj m q r=>?_
   rwa[l,r,Ij d B S (Io m) f (q.trans s.symm),t]
   rfl
  |none=>
   generalize r:cw (eg Y ns ns.length) (a9 (o,ks))=b;induction b with
   |none=>rfl
   |some v=>
    show eA (g.1 _ _ r) λj m q z=>?_
    have:=(ve d B S (o:=o) (ks:=ks) (a:=hm (told Y ns) j)).mpr ⟨j,_,Io m,q,rfl⟩
    rw[e]at this;cases this
noncomputable def Q9:CS:= cZ (jJ (iz (ax 10) (iV cV (e0 (aS (dB "op" (dZ (ax 6) 8) (aS (ax 9) aT)) aT)) (fa gM (eH ah [N,N,W 8] (bt 1) (dW (dB "kids" (dZ (ax 6) 8) (aS (ax 9) aT))) aT (cK (ax 2) (ax 1)))))) (cK (ax 8) (ax 9))) c7
theorem Ra(a:i<ns.length):hM (look σ (ay ((fS Y ns).map iD))) (iD i)=W (iD (hm (told Y ns) i)):=by
 show l0 (by simp[fS,a])
def gh(f:Nat->Nat)(d:D):D:=iD (f ((oO d).getD 0).toNat)
theorem agj :gh f (iD x)=iD (f x):=rfl
theorem agk(t:Y.Ok)(B:Bs Y 3 ns wt dp us)(o:h.nodes=ns){o11 o12 o13 o14 o15 o16 o17 o18:Option D}(r:Nat):∀(m:Nat)(o9:Option D),m+r=ns.length ->
 ∃a,loopGo (λd ρ σ=>(dY (bt 9) d ρ).bind λρ=>ba tb (run (n+1)) Q9 ρ σ) ((List.range' m r).map iD) (lw sc Y ns (W (ay ((fS Y ns).map iD))) o9 (W (ak (mk h).length)) o11 o12 o13 o14 o15 o16 o17 o18) (mk h++[a8 (eg Y ns m)])=W (N,lw sc Y ns (W (ay ((fS Y ns).map iD))) a (W (ak (mk h).length)) o11 o12 o13 o14 o15 o16 o17 o18,mk h++[a8 (eg Y ns ns.length)]):=by
 induction r with
 |zero=>showλm o9 e=>⟨o9,![show m=ns.length from e]⟩
 |succ r q=>
  intro m o9 e
  have b:m<ns.length:=tM e
  show(q (m+1) (W (iD m)) (zW e)).elim λa q=>⟨a,?_⟩
  rwa[JD,ea]
  have l:=Io b
  generalize u:ns.getD m ("",[])=p at l
  have i:h.nodes[m]?=W p:=by rwa[o];show l
  have v:=PH (n:=n) (J:=[a8 (eg Y ns m)]) i
  have w:=PI (n:=n) (J:=[a8 (eg Y ns m)]) i
  have y:=B.two t p (cN l)
  have z:fJ tb (run (n+1)) (dW (dB "kids" (dZ (ax 6) 8) (aS (ax 9) aT))) (lw sc Y ns (W (ay ((fS Y ns).map iD))) (W (iD m)) (W (ak (mk h).length)) o11 o12 o13 o14 o15 o16 o17 o18) (mk h++[a8 (eg Y ns m)])=W (p.2.map iD,mk h++[a8 (eg Y ns m)]) :=
   b6 (c9 (at_of rfl (@g1 h _) (aQ rfl) rfl) (dD (@g2 h _)) (f:=162) rfl (bb (aB rfl)) w) rfl
  have c:=jq (mp:=[N,N,W 8]) (tg:= bt 1) (elt:= cK (ax 2) (ax 1)) (g:=gh (hm (told Y ns))) z λd A=>by
   show ct d (b3.mp A) λx Q=>?_
   rwa[agj]
   show⟨[N,W (iD x),W (ay ((fS Y ns).map iD))],rfl,cX (aB rfl) (aB rfl) (Ra (e9 (B.low m p l x Q) b))⟩
  have j:(p.2.map iD).map (gh (hm (told Y ns)))=(p.2.map (hm (told Y ns))).map iD:=![dK,dK]
  rw[j]at c
  have s:=Q8 (Y:=Y) (ns:=ns) m
  have H:(mk h++[a8 (eg Y ns m)])[(mk h).length]?=W (a8 (eg Y ns m)):=by simp
  show iE (fw (cX (aB rfl) (aB rfl) (Ra b)) (iP (qC (e:=a9 (canon Y ns p)) (m:=(mk h).length) (aB rfl) (et (eD (bb (c9 (at_of rfl (@g1 h _) (aQ rfl) rfl) (dD (@g2 h _)) (f:=155) rfl (bb (aB rfl)) v))) (d4 c rfl) ?_) H (xY s.1 _) (bY s.2 (by have:=B.len;lia))) ?_) (σ2:=mk h++[a8 (eg Y ns (m+1))]) (ρ':=lw sc Y ns (W (ay ((fS Y ns).map iD))) (W (iD m)) (W (ak (mk h).length)) o11 o12 o13 o14 o15 o16 o17 o18) eI) q
  .show px (by simp only[bN,fC,mr];lia)
  .rwa [show eg Y ns (m+1)=cp (eg Y ns m) (a9 (canon Y ns (ns.getD m ("",[])))) (iD (hm (told Y ns) m))from rfl,u,zl _ _ (bG _),jC]
   rfl
end
structure Rb (Y:Ty) (r:D) (lt rt:Pt) (ps:List Pt) (l:List (String×Nat)) (nm:List D):Prop where
 ex:∃al,r= bh 477 al/\al.lookup 15=aa lt.toD/\al.lookup 16=aa rt.toD
 left:uZ lt.toD lt (rowsOf lt.toD) ps l nm
 shape:BG lt (rowsOf lt.toD)=af
 rn:rt.j8=af
 rd:rt.dep<=5
 rv:∀x∈rt.vars,x∈lt.vars
 sound:pz Y.T (lt,rt)
theorem agl(t:Pt):t.toD≠ cg:=by induction t using sj<;>(first|show ne_of_beq_false rfl|simp[Pt.toD])
theorem Rc{t:Pt}(h:t.toD=o.getD cg):o=W t.toD:=by
 induction o with
 |none=>show aF h (agl t)
 |some d=>show aI W h.symm
theorem agm(h:a.Ok)(c:r∈a.fR):∃i j k l m,Rb a r i j k l m:=by
 have d:=bQ.mp h.pats r c
 have e:=bQ.mp (au h.pj).2 r c
 have o:=(au (au d).1).1
 have n:=bS (au (au d).1).2
 have p:=bS (au d).2
 have q:=(au (au e).1).1
 have f:=(au (au e).1).2
 have b:=(au e).2
 have g:=h.sound (parse 6 (at_ r 15),parse 6 (at_ r 16)) (b3.mpr ⟨r,c,rfl⟩)
 show Ex (adS q) λk l m L=>?_
 clear d e q c
 generalize parse 6 (at_ r 15)=i at n f b L g
 generalize parse 6 (at_ r 16)=j at p b g
 rw[<-n]at L f
 show x5 i j k l m ⟨?_,L,f,(au (au b).1).1,bS (au (au b).1).2,λx s=>by simpa using bQ.mp (au b).2 x s,g⟩
 clear L f b g
 induction r using bJ with
 |ins C t=>
  have:=bS o
  clear o;subst this
  show⟨t,rfl,Rc n,Rc p⟩
 |_=>show ff ‹_›
theorem agn(l:List Ky):D.bT (l.map kD)=U/\D.du (l.map kD)<=3:=by
 induction l with
 |nil=>show⟨rfl,cQ _⟩
 |cons a r b=>show⟨dN (qJ a).1 b.1,jR.mpr ⟨(qJ a).2.1,b.2⟩⟩
noncomputable def Rd:CS:=(cZ (k7 (dR gZ (f6 639 (aS (ax 2) (aS (f6 664 (aS (ax 6) (aS (dZ (ax 15) 16) (aS (fa oS (ax 18)) aT)))) (aS (ax 5) aT)))) (cK (ax 7) (ax 17))) (cZ (.ret (ql Y)) c7) c7) c7)
def Ci:CS:=(cZ (jJ (dH 15) (cK (ax 12) (f6 627 (aS (ax 1) (aS (fa dO (ax 12)) aT))))) (cZ (jJ (dH 16) (dB "run" (ax 13) (aS (f6 207 (aS (dZ (ax 15) 15) aT)) aT))) (cZ (k7 (dR gZ (ax 16) (f6 659 (aS (ax 11) (aS (ax 10) (aS (dZ (ax 15) 15) aT))))) (cZ (.ret (ql Y)) c7) c7) (cZ (.loop (jI [17,18]) (dW (.lL (ax 16) (dI 3))) Rd) c7))))
section
variable{Y:Ty}{L:List Int}{k:Nat}{ns:List (String×List Nat)}{wt dp:List Int}{us:List (List D)}{h:HS}{J:St}
theorem Ip{g:Fm}(f:g[i]?=W (W r))(e:r= bh 477 c)(l:c.lookup j=W d):ev tb a (dZ (ax i) j) g b=W (d,b):=by
 subst e
 show si (aB f) (by rfl) l
theorem ago(f:Y.Ok)(B:Bs Y 3 ns wt dp us)(S:Sd Y (L.map aq) k ns us h){r:D}{A o:Pt}{ps:List Pt}{l:List (String×Nat)}{nm:List D}(R:Rb Y r A o ps l nm){sc:D}{o8 o9 o10 o11 o12 o13 o14 o16:Option D}:
 ∀(Q:List Ky)(g j:Option D),(∀q∈Q,cM (oe Y ns) (λx=>q.2.lookup x) A=aa q.1/\q.2.map (·.1)=l.map (·.1)/\∀p∈q.2,p.2∈h.cls) ->
 ∃b c,loopGo (λd H σ=>(dY (jI [17,18]) d H).bind λH=>ba tb (run 39) Rd H σ) (Q.map kD) (lw sc Y ns o8 o9 o10 o11 o12 o13 o14 (aa r) o16 g j) (mk h++J)=aa (ae,lw sc Y ns o8 o9 o10 o11 o12 o13 o14 (aa r) o16 b c,mk h++J):=by
 intro Q
 induction Q with
 |nil=>showλg j X=>x2 g j rfl
 |cons q Q ih=>
  intro g j P
  show a3 (P q (a7 ..)) λq1 I q3=>?_
  show eA (R.ex) λal er X K=>?_
  have U:=B.len
  have M:=bS (au (au (au R.left.size).1).1).2
  have s:=R.shape
  have t:(q.2.map (·.1)).Nodup:=by rwa[I];show R.left.ok.nd
  have u:∀x i,q.2.lookup x=aa i->i<ns.length:=λx i e=>by
   show jW (List.lookup_eq_some_iff.mp e) λl1 l2 e2 X=>?_
   show((yj S).mp (q3 (x,i) (by rwa[e2];show fG _ (a7 ..)))).1
  have v:∀x∈A.vars,(q.2.lookup x).isSome=af:=λx m=>by
   have:=(R.left.vars x).mp m
   rw[<-I]at this
   clear m;show ct x (b3.mp this) λp hp=>?_
   rwa[lookup_mem t (show(p.1,p.2)∈q.2 from hp)];rfl
  have N:∀x∈o.vars,∃i,q.2.lookup x=aa i/\i<h.nodes.length:=λx m=>by
   obtain⟨i,V⟩:=fF.mp (v x (R.rv x m))
   show⟨i,V,by rwa[S.rest.2.2.1];show u x i V⟩
  have a:=S.rest.2.2.1
  obtain⟨W,Z⟩:=agg f B S R.sound (au (au s).1).2 (λx m=>by simpa using bQ.mp (au s).2 x m) R.rn R.rv q1 u v
  have fl:=agc (h:=h) (J:=J) (by rwa[a];show B.low) (by rwa[a];show B.two f) (by rwa[a];lia) q.2 o 38 R.rn (by have:=R.rd;show bY ‹_› (aQ rfl)) N
  rw[a]at fl N
  have fd:=agd B f o N
  have hrd:=R.rd
  have wa:=B.wd f (q.1+1) q.1 (dP _) W
  have ww:=QU (n:=38) (σ:=mk h++J) f fd.2 (λw y=>by
   rwa[Z w y]
   show wa.1.sm _ _ (f.wd w y).1 (f.wd w y).2) (by lia) (by lia)
  have z:fy Y (kh ns q.2 o)=fy Y (tm ns q.1):=fN λw y=>![Z w y]
  rw[z]at ww
  show p9 (ih (aa (iD q.1)) (aa (aw (q.2.map λp=> aw [sD p.1,iD p.2]))) (λx m=>P x (bq _ m))) λb c ih=>?_
  show x2 b c ?_
  rwa[ea]
  have agF:q.2.length<=3:=aC (bC ((bN (·.1)).symm.trans ((aI tj I).trans (bN ..)))) M
  show iE (de (fb (r:= aM ah) (jr (b8 (aB rfl) (b8 (jr (b8 (aB rfl) (b8 (Ip rfl er K) (bb (d4 (aB rfl) (aeI t (aC ‹_› (aQ rfl))))))) fl) (bb (aB rfl)))) ww) (cX (aB rfl) (aB rfl) (Q4 W)) ?_) eI) ih
  have hd:=QT f wa.1 (by lia)
  show(cG (ay (fy Y (tm ns q.1))) (ay (fy Y (tm ns q.1)))).map (λr=>aM (!r))=_
  rwa[f.eq _ _ hd hd,dA rfl];rfl
theorem Rf(c:Y.Ok)(B:Bs Y 3 ns wt dp us)(S:Sd Y (L.map aq) k ns us h)(u:k<=90){cs:List Nat}(W:∀x,x∈cs↔x∈h.cls)(Z:cs.Nodup)(c3:cs.length<=6):
 ∃m o a b,ba tb (run 39) Ci (lw sc Y ns o8 o9 (aa (ak (mk h).length)) (aa (ay (cs.map iD))) (aa (ay Y.fR)) (aa gS) o14 o15 o16 o17 o18) (mk h++[a8 (eg Y ns ns.length)]) =
  aa (ae,lw sc Y ns o8 o9 (aa (ak (mk h).length)) (aa (ay (cs.map iD))) (aa (ay Y.fR)) (aa gS) o14 m o a b,mk {h with at_:=k+1}++[a8 (eg Y ns ns.length)]):=by
 have d:(mk h++[a8 (eg Y ns ns.length)])[0]?=aa (eS L k):=by
  show aa (a8 [(sD "cells",ay h.cells),(sD "at",aq h.at_)])=_
  rwa[S.rest.1,S.rest.2.1];rfl
 show aV (xX (n:=38) (w:=Y.fR.length) d (aC ‹_› (aQ rfl)) (⟨bS (au (au c.pj).1).1,bS (au (au c.pj).1).2⟩:0<Y.fR.length/\Y.fR.length<1000).1) λv y z=>?_
 have p:(mk h++[a8 (eg Y ns ns.length)]).set 0 (eS L (k+1))=mk {h with at_:=k+1}++[a8 (eg Y ns ns.length)]:=by
  unfold eS mk
  rwa[<-S.rest.1]
  rfl
 rw[p]at z
 generalize g:({h with at_:=k+1}:HS)=j at z
 have i:Sd Y (L.map aq) (k+1) ns us j:=by rwa[<-g];show⟨⟨S.rest.1,rfl,S.rest.2.2⟩,S.up,S.lots⟩
 have s:j.cls=h.cls:=![<-g]
 have A:(mk j).length=(mk h).length:=![<-g]
 have H:Y.fR[v]?=aa (Y.fR[v]'y):=dn y
 generalize Y.fR[v]'y=r at H
 obtain⟨lt,rt,ps,l,nm,R⟩:=agm c (cN H)
 show eA (R.ex) λal K t X=>?_
 show wx (af6 c B i) λI n1 P n3 n4=>?_
 have M:=af8 (n:=33) (J:=[a8 (eg Y ns ns.length)]) B c i n1 P n4
 have N:=af7 c B i P n3
 have hs:(mk j++[a8 (eg Y ns ns.length)])[(mk h).length]?=aa (a8 (eg Y ns ns.length)):=by rwa[<-A];simp
 have U:=B.len
 have V:=i.yi
 show k0 (aeU (n:=37) (n':=38) (cs:=j.cls) (cs':=cs) M N (λJ'=>by rwa[iM];show ad7 (n:=36) (by lia)) hs (agi c B i) R.left R.shape (br ..) (Q7 B i) (λx=>by rwa[s];show W x) c3 Z) λQ q1 q2 q3=>?_
 have pr:=adT (σ:=mk j++[a8 (eg Y ns ns.length)]) (by rfl) (au (au R.left.size).1).2 R.left.prog
 show p9 (ago (J:=[a8 (eg Y ns ns.length)]) c B i R (sc:=sc) (o8:=o8) (o9:=o9) (o10:=aa (ak (mk h).length)) (o11:=aa (ay (cs.map iD))) (o12:=aa (ay Y.fR)) (o13:=aa gS) (o14:=o14) (o16:=aa (ay (Q.map kD))) (Q.take 3) o17 o18 (λq hq=>q3 q (zf hq))) λa b th=>?_
 show x4 (aa r) (aa (ay (Q.map kD))) a b ?_
 unfold Ci
 show d8 (cX (r:=r) (aB rfl) (jr (b8 (aB rfl) (bb (d4 (r:=iD Y.fR.length) (aB rfl) rfl))) z) ?_) ?_
 .show l0 H
 show d8 (c9 (aB rfl) rfl (f:=231) rfl (bb (jr (bb (Ip rfl K t)) pr)) q1) ?_
 show de (fb (r:= aM ah) (aB rfl) (jr (b8 (aB rfl) (b8 (aB rfl) (bb (Ip rfl K t)))) q2) ?_) ?_
 .have u:=agn Q
  show(cG (ay (Q.map kD)) (ay (Q.map kD))).map (λr=>aM (!r))=_
  rwa[BN u.1 u.1 (by lia) (by lia),dA rfl];rfl
 show(kP (b6 (Bp (r:= ay ((Q.take 3).map kD)) (aB rfl) cE ?_) rfl) th).trans eI
 show(aJ (e:=ae) (by decide:(0:Int)<=3)).trans (aI (λl=>aa (ay l)) pN.symm)
theorem agp(h:1<a.length):iU a (ak a.length) (a++[cz 234 [(4,ak 1)]])=W (gS,a):=by
 unfold iU
 rwa[aJ (JB rfl)]
 show(eZ (a++[cz 234 [(4,ak 1)]]) a.length 4 a.length).map _=_
 rwa[show eZ (a++[cz 234 [(4,ak 1)]]) a.length 4 a.length=_ from aL (cq _),JC]
 show(((if 1<a.length then W (ak 1)else _).bind _).map _).map _=_
 rwa[aJ h];rfl
theorem agq{b:Fm}(c:b[6]?=W (W (ak 1)))(h:1<a.length):ev tb (run 39) (oR 234 U (aS (ax 6) aT)) b a=W (gS,a):=by
 show H7 (bb (aB c)) rfl (σ2:=a++[cz 234 [(4,ak 1)]]) ?_ (agp h)
 show dw (n:=38) (r:=N) (ρ':=[W (ak a.length),W (ak 1)]) (by rfl) rfl rfl rfl rfl rfl ?_
 show ba tb (run 38) ES [W (ak a.length),W (ak 1)] _=_
 unfold ES
 show fw (aB rfl) (Hq (aB rfl) (L:=[]) (C:=234) (by simp) (dm _) (aQ rfl)) ?_
 rwa[eI]
 rwa[zl _ _ (bG _),jC];rfl
end
theorem Rg{ρ:Fm}(f:ev tb cal k ρ σ=W (a,σ1))(g:ev tb cal v ρ σ1=W (b,c))(h:mI tb cal l ρ c=W (e,d)):mI tb cal (jl k v l) ρ σ=W ((a,b)::e,d):=by
 show(ev tb cal k ρ σ).bind _=_
 rwa[f,c5,g,c5,h];rfl
section
variable{Y:Ty}{L:List Int}{k:Nat}{ns:List (String×List Nat)}{wt dp:List Int}{us:List (List D)}{h:HS}{J:St}
theorem agr(e:Y.Ok)(B:Bs Y 3 ns wt dp us){ρ:Fm}(b:ρ[7]?=W (W (i5 Y ns))):
 ev tb cal (eH ah [N,N,W 7] (bt 1) (dW (ax 7)) aT (gL lQ (ax 2) (aS (ax 1) aT))) ρ σ=W (ay ((fS Y ns).map iD),σ):=by
 have c:=jq (cal:=cal) (σ:=σ) (mp:=[N,N,W 7]) (tg:= bt 1) (it:= dW (ax 7)) (elt:= gL lQ (ax 2) (aS (ax 1) aT)) (ρ:=ρ) (ds:=(told Y ns).map ay)
  (g:=λd=>match d with|.lst w=>iD ((told Y ns).findIdx λa=>I (a=w))|d=>d) (b6 (aB b) rfl) λd f=>by
  show ct d (b3.mp f) λw j=>?_
  show⟨[N,W (ay w),W (i5 Y ns)],aI (λo:Option (Option D)=>W [N,W (ay w),o.bind id]) b,Q3 e B rfl j (aB rfl) rfl⟩
 rwa[c,dK]
 show aI W (iQ (aI ay ?_) rfl)
 unfold fS
 rwa[dK]
 conv=>lhs;unfold told
 rwa[dK]
 show fN λi l=>?_
 simp only[oH,hm,od (fM.mp l)]
 rfl
theorem ags(S:Sd Y (L.map aq) k ns us h)(l:ns.length<1000){ρ:Fm}(a:ρ[6]?=W (W (ak 1))):
 ev tb (run (n+2)) (eH ah [N,N,W 6] (bt 1) (nS (dB "size" (ax 6) aT)) aT (dB "find" (ax 2) (aS (ax 1) aT))) ρ (mk h++J)=W (ay ((fS Y ns).map iD),mk h++J):=by
 have b:=u0 (n:=n) (h:=h) (J:=J)
 rw[S.rest.2.2.1]at b
 have c:=jq (cal:=run (n+2)) (σ:=mk h++J) (mp:=[N,N,W 6]) (tg:= bt 1) (it:= nS (dB "size" (ax 6) aT)) (elt:= dB "find" (ax 2) (aS (ax 1) aT)) (ρ:=ρ) (ds:=(bE ns.length).map λk=> aq (k:Nat))
  (g:=λd=>match d with|.int i=>iD (hm (told Y ns) i.toNat)|d=>d) (qv (c9 (aB a) (dD (@g1 h J)) (f:=341) rfl fK b) (bg ‹_› (aQ rfl))) λd j=>by
  show ct d (b3.mp j) λi e=>?_
  show⟨[N,W (iD i),W (ak 1)],aI (λz=>W [N,W (iD i),z]) (aI (λz=>z.bind id) a),?_⟩
  simp only[rG]
  show c9 (aB rfl) (dD (@g1 h J)) (f:=370) rfl (bb (aB rfl)) (xT S.flat ![S.up,qN (fM.mp e),aJ (fM.mp e)])
 rwa[c,dK]
 unfold fS
 rwa[dK]
 rfl
end
theorem agt{l:List Int}(q:a.Ok)(V:run 39 634 [ak 0] [eS (l.take 24) 0]=W (yb a,[eS (l.take 24) 2]))(hk:k<=20)(B:Bs a 3 c j m g)(S:Sd a ((l.take 24).map aq) k c g h)
(W:run 39 644 [ak 0,a.T.self,ay (a.ops.map λp=> aw [sD p.1,iD p.2]),sD a.leaf,ay (a.ws.map λw=> aw [w.1,w.2])] [eS (l.take 24) 2]=aa (aw [ak 1,i5 a c],mk h)):∃Z,run 40 669 [ay (l.map aq)] []=aa (aM af,Z):=by
 have K:=B.len
 show wx (aga B S) λcs c0 L M N=>?_
 let sc:D:= ay (l.map aq)
 have o:=S.rest.2.2.1
 have sz:=u0 (n:=37) (h:=h) (J:=[])
 have s:=u0 (n:=37) (h:=h) (J:=[a8 []])
 rw[o]at sz s
 have P:=ags (J:=[]) (n:=37) S (by lia) (ρ:=lw sc a c (aa (ay ((fS a c).map iD))) ae ae ae ae ae ae ae ae ae ae) rfl
 simp only[eM]at P
 have t:=xU (fS a c)
 obtain⟨o9,kl⟩:=agk (n:=38) q B o (sc:=sc) (o11:=aa (ay (cs.map iD))) (o12:=ae) (o13:=ae) (o14:=ae) (o15:=ae) (o16:=ae) (o17:=ae) (o18:=ae) c.length 0 ae (by lia)
 show KR (Rf q B S (by lia) L M N (sc:=sc) (o8:=aa (ay ((fS a c).map iD))) (o9:=o9) (o14:=aa (iD 0)) (o15:=ae) (o16:=ae) (o17:=ae) (o18:=ae)) λu v x y t1=>?_
 have S1:Sd a ((l.take 24).map aq) (k+1) c g {h with at_:=k+1}:=⟨⟨S.rest.1,rfl,S.rest.2.2⟩,S.up,S.lots⟩
 show KR (Rf q B S1 (by lia) (cs:=cs) L M N (sc:=sc) (o8:=aa (ay ((fS a c).map iD))) (o9:=o9) (o14:=aa (iD 1)) (o15:=u) (o16:=v) (o17:=x) (o18:=y)) λz A Q H U=>?_
 rw[show(mk {h with at_:=k+1}).length=(mk h).length from rfl]at U
 show⟨mk {h with at_:=k+1+1}++[a8 (eg a c c.length)],?_⟩
 show dw (n:=39) (F:=Lw) (ρ0:=[aa sc,ae,ae,ae,ae,ae,ae,ae,ae,ae,ae,ae,ae,ae,ae,ae,ae,ae,ae,ae,ae,ae,ae,ae,ae,ae,ae,ae,ae,ae,ae,ae,ae])
  (r:=aa (aM af)) (ρ':=lw sc a c (aa (ay ((fS a c).map iD))) o9 (aa (ak (mk h).length)) (aa (ay (cs.map iD))) (aa (ay a.fR)) (aa gS) (aa (iD 1)) z A Q H) (by rfl) rfl rfl rfl rfl rfl ?_
 show ba tb (run 39) Fc _ _=_
 unfold Fc
 show d8 (d:= ak 0) (σ1:=[eS (l.take 24) 0]) ?_ ?_
 .have e:mI tb (run 39) (jl (fP "cells") (.lL (ax 0) (dI 24)) (jl (fP "at") (dI 0) iB)) [aa sc,ae,ae,ae,ae,ae,ae,ae,ae,ae,ae,ae,ae,ae,ae,ae,ae,ae,ae,ae,ae,ae,ae,ae,ae,ae,ae,ae,ae,ae,ae,ae,ae] []=aa ([(sD "cells",ay ((l.take 24).map aq)),(sD "at",iD 0)],[]):=by
   show Rg kL (Bp (aB (d:=sc) rfl) cE (r:= ay ((l.take 24).map aq)) ((aJ (e:=ae) (by decide:(0:Int)<=24)).trans (aI (λl=>aa (ay l)) pN.symm))) (Rg kL cE rfl)
  show(aI (sM · _) e).trans ?_
  dsimp only[c5]
  rwa[show nL [(sD "cells",ay ((l.take 24).map aq)),(sD "at",iD 0)]=aa [(sD "cells",ay ((l.take 24).map aq)),(sD "at",iD 0)] by kernel_rfl]
  rfl
 show fw (jr (bb (aB rfl)) V) rfl ?_
 show fw (jr (b8 (aB rfl) (b8 (aB rfl) (b8 (aB rfl) (b8 (aB rfl) (bb (aB rfl)))))) W) rfl ?_
 show d8 (agr q B (cal:=run 39) (σ:=mk h) (ρ:=lw sc a c ae ae ae ae ae ae ae ae ae ae ae) rfl) ?_
 show de (fb (r:= aM ah) P (aB rfl) ?_) ?_
 .show (cG (ay ((fS a c).map iD)) (ay ((fS a c).map iD))).map (λr=>aM (!r))=_
  rwa[BN t.1 t.1 (by lia) (by lia),dA rfl];rfl
 show fw (d:= aw [ak (mk h).length,ay (cs.map iD)]) (σ1:=mk h++[a8 []]) (eD (b8 (d:= ak (mk h).length) (σ1:=mk h++[a8 []]) Pa (bb (d4 (aB rfl) (Hr rfl c0))))) rfl ?_
 show(kP (b:=Q9) (qv (i:=c.length) (c9 (aB rfl) (dD (@g1 h [a8 []])) (f:=341) rfl fK s) (by lia)) (show loopGo _ ((bE c.length).map λk=> aq (k:Nat)) _ _=_ by rwa[JF];show kl)).trans ?_
 show dM q.self λal hs=>?_
 have I:1<(mk h++[a8 (eg a c c.length)]).length:=by simp[mk]
 show fw (d:= aw [ay a.fR,gS]) (eD (b8 (c9 (aB rfl) (![hs]) q.x6 fK (q.fR 27 _)) (bb (agq rfl I)))) rfl ?_
 show(kP (b:=Ci) (qv (i:=2) cE (by lia)) (iE t1 (iE U Hp):loopGo (λd ρ σ=>(dY (bt 14) d ρ).bind λρ=>ba tb (run 39) Ci ρ σ) [iD 0,iD 1] (lw sc a c (aa (ay ((fS a c).map iD))) o9 (aa (ak (mk h).length)) (aa (ay (cs.map iD))) (aa (ay a.fR)) (aa gS) ae ae ae ae ae) (mk h++[a8 (eg a c c.length)])=aa (ae,_,_))).trans ?_
 show di AN
theorem agu(l:List Int):∃b,run 40 669 [ay (l.map aq)] []=W (aM U,b) :=
 aV (afs 36 (l.take 24)) λz a c=>tP (af3 26 (l.take 24) a) λz z d B S e=>agt a c d B S e
end Pq
end
theorem PySem.Challenge.cw_pq0096_01_holds : PySem.Challenge.rw_pq0096_01.Holds := by
 exact Pq.acO λl z=>by
  obtain⟨a,e⟩:=Pq.agu l
  exact⟨40,a,by omega,e⟩
