import PyProof.Rows.All
import Wide.All
import OpenK.AllK
import Wide.FinOn
import Lean
import PySem.Challenge.RW_pq0068_01
open PySem renaming wpAny_bind->af,wpAny->ao,wpAny_pure->ap,Shared->aA,model->aO,wpAny_mono->aS,World->bR,Around->cj,wpAny_holding->co,wpAny_ite_false->cw,rawInt->cF,sizeLine_eq->dO,cLine->dP,Scope->eb,DictEntry->en,wpAny_call_entry->eL,Program->eN,wpAny_rule->fq,wpAny_ite_true->fM,relabel->fP,SetTable->gr,holding->gL,pyNext->gM,wpAny_standAt->hY,wpAny_field->iw,standAt->ix,NameKind->jc,Builtin->jd,wpAny_callSpecial?_slot->jW,compareOp->jY,hashInt->kK,wpAny_setState_of->lu,wpAny_seqItems->lx,sizeLine->ly,codeAny->lz,codeAny_mono->lW,pyIter->mc,callWith->nv,wpAny_newObj_type->nX,wpAny_attempt->nZ,Model->oh,wpAny_specialOf->pb,codeAny_builtin->pc,treeTable->pn,OsState->pu,again->pB,wpAny_ite_split->qt,wpAny_setField->qu,field->qC,wpAny_dictEntries->rZ,foldedSetIterable->sa,wpAny_isInstance->sc,wpAny_dictEpoch->se,placesWithHash->sf,sysModules->si,assignEach->sj,pushCells->sq,binaryOp->sr,isTrue->su,assign->sv,wpAny_setField_rec->tS,wpAny_truthy_bool->tV,strKind->ue,wpAny_typeOf->ug,mainGlobals->uh,setEntries->ui,updateSeq->uu,pickOrder->uv,cellsFrom->ux,spliced->uB,setNext->uC,getItem->uD,wpAny_updateSeq->wG,letOwnedTupleGo->wH,plainId_quiet->wI,compTurn->wR,Walks->wW,wpAny_fieldsOf->yS,wpAny_of_eq->yY,putSet_of->zg,bindName->zj,intKind->zk,StrKeys->zm,typeOf->zn,wpAny_pyIter_tuple->BU,wpAny_forIn_list->Cg,wpAny_askSetting->Ch,isSubtype_stop->Cp,swappedStores->Cr,assignInOrder->Ct,concat_meets->Cy,wpAny_letGo->CE,Fin->CI,wpAny_Name->CJ,typeLookup->CK,builtinsNs->CL,seqItems?->CP,dictGet->CW,argBest->CX,truthy->CZ,newExc->Db,wpAny_typeNameOfWhole_keyiter->Gp,wpAny_typeNameOf_keyiter->GA,wpAny_notOrdered_dict->GK,builtinLookup_eq_fast->GL,wpAny_storeSet_of->Hd,wpAny_sequenceKey->He,wpAny_pyIter_slot->Hf,wpAny_pyIter_list->Hg,slot_dict_getitem->Hh,getMethod_builtin->Hj,typeLookup_type->Ht,wpAny_newTuple->Hx,isSubtype_type->Hy,wpAny_newList->HG,setAddHashed->HK,wpAny_mkInt->HN,loadIfAlive->HO,typeIs_str->HQ,swapsWith->HR,slicePick->HS,Arguments->HT,setField->HV,raiseNew->HW,FuncData->HX,slot_list_getitem->Oe,wpAny_updateDictKeys->OD,slot_dict_contains->OR,noFill_tuple_add->Pf,wpAny_execs_nil->Ph,codeAny_of_tree->Pj,wpAny_runValue->Pq,wpAny_bindName->Pr,wpAny_onRaise->PC,swapsWithSole->PD,seq_tuple_add->PG,Comprehension->PJ,subscripted->PR,sliceBounds->PS,richCompare->PU,wpAny_load->PY,wpAny_call->PZ,reduceHash->Qa,call_meets->Qb,slot_list_setitem->H7,wpAny_pyNext_list_item->N3,wpAny_storeName_local->P0,wpAny_pyNext_list_end->P1,wpAny_isOneOf_keyiter->P7,isSubtype_tuple_tuple->P8,wpAny_letTemporaryGo->R8,codeAny_call_builtin->R9,wpAny_getItem_list->U8
open PySem.Str renaming ofString->ak,empty->sk
open List renaming length_map->au,mem_map->bb,map_map->bg,length_append->bA,length_cons->bP,mem_append->ca,map_append->cb,mem_singleton->ci,mem_append_right->cn,mem_map_of_mem->cL,getElem?_eq_getElem->cR,range->cS,mem_append_left->dh,getElem?_map->dm,mem_cons_of_mem->dw,mem_cons_self->dC,mem_cons->dD,getElem?_eq_some_iff->dJ,map_cons->dK,append_nil->ea,append_assoc->eK,mem_range->eM,mem_of_getElem?->fZ,mem_iff_getElem?->gk,rec->gq,length_singleton->gG,mem_flatMap->gI,getElem_mem->gJ,mem_filter->gK,map_congr_left->gZ,nodup_nil->hX,nodup_cons->iM,all_eq_true->jb,length_range->lS,forall_mem_cons->mZ,extract_eq_take_drop->nU,take_of_length_le->nV,getElem_map->nY,perm_append_comm->oW,filterMap_cons->oX,getElem?_eq_none->qp,forIn_cons->qs,map->qB,size_toArray->rX,nodup_append->rY,lookup_cons->sb,mem_of_find?_eq_some->tO,zip_cons_cons->tQ,flatMap_cons->tT,getElem_inj->tW,tail_cons->uc,drop_one->uf,tail->um,getD_eq_getElem?_getD->wq,length_filter_le->ww,flatMap_append->wy,not_mem_nil->wB,filter_cons->wC,find?_some->wF,take_append_drop->yI,getElem?_mapIdx->yK,filter_sublist->yM,ext_getElem?->yO,flatMap_nil->yP,map_nil->yU,eq_nil_of_length_eq_zero->BF,idxOf_lt_length_iff->BL,length_eq_zero_iff->BM,forall_mem_append->BO,drop_eq_nil_iff->BP,isEmpty_iff->Ca,range_succ->Cd,of_mem_zip->Ce,find?_cons->Cf,unzip_zip->Ck,replicate->Cm,forIn_nil->Cn,toArray->Cq,lookup->Cv,length->Cw,getElem?_zip_eq_some->Gs,length_pos_of_mem->GB,length_eq_one_iff->GC,getElem?_toArray->GD,mem_of_mem_drop->GH,getElem?_append->GI,find?_eq_none->GP,reverse_perm->GR,prefix_refl->GW,nodup_range->GX,cons_ne_nil->GY,any_eq_true->GZ,length_nil->Hl,unzip_snd->Hq,drop_zero->Hr,foldl->HM,concat_eq_append->Ol,mem_of_mem_take->Oo,length_take_le'->Op,map_eq_nil_iff->Ot,mem_filterMap->Oy,map_inj_right->Oz,mapIdx_append->OA,filter_append->OB,take_add_one->OH,pairwise_map->OI,getElem?_inj->OJ,cons_eq_cons->OK,zipIdx_cons->OO,map_flatMap->OP,mapIdx_cons->OQ,zipIdx_nil->OY,length_set->OZ,getElem?_concat_length->F8,length_eraseIdx_of_lt->G8,eraseIdx_of_length_le->H0,sublist_append_right->H3,pairwise_iff_getElem->H4,drop_eq_getElem_cons->H5,sublist_append_left->J1,mem_of_mem_eraseIdx->J2,lookup_cons_self->K5,eq_nil_or_concat->K6,getElem?_range->M4,zip_nil_right->M8,pairwise_cons->M9,getElem_idxOf->N0,zip_nil_left->N8,reverse_cons->N9,idxOf_append->O0,getElem?_set->O1,find?_isSome->O2,drop_sublist->O3,perm_middle->R2,map_snd_zip->R3,length_take->R4,cons_append->R5,append_cons->R6,nil_append->S6,length_zip->S7,idxOf_cons->S8,foldl_cons->S9,perm_cons->U3,drop_drop->U4,take_add->V1,sum_cons->V2,all_cons->V3
open Nat renaming le_trans->aL,le_refl->bS,zero_le->cO,lt_of_lt_of_le->fL,le_of_eq->fO,not_succ_le_zero->gm,le_add_left_of_le->gY,ne_of_lt->hZ,succ_le_succ->iv,le_of_succ_le->ja,le_add_right->kI,le_of_lt->lV,not_lt->lX,mul_le_mul_right->nc,le_succ_of_le->nf,le_of_lt_succ->ng,zero_add->np,le_succ->oa,add_le_add_left->oY,lt_succ_of_le->oZ,lt_succ_self->pa,add_le_add->pe,succ_pos->ph,max_le->qA,le_of_succ_le_succ->rU,add_assoc->sg,lt_of_lt_of_eq->tR,lt_succ_of_lt->tU,le_of_not_le->tY,add_le_add_right->wx,add_sub_cancel'->wz,add_comm->wK,lt_of_le_of_lt->yN,not_le->zc,mod_lt->zd,add_sub_cancel_left->BN,pow_le_pow_right->BQ,lt_of_succ_lt->BW,strongRecOn->Cj,ne_of_gt->Cu,one_mul->CA,beq->CV,succ_lt_succ_iff->GJ,le_max_right->Hb,not_lt_zero->Hm,le_max_left->Hn,lt_irrefl->Hw,mul_comm->Hz,min_self->HA,lt_trans->HB,pow_add->HJ,ble->HU,ne_of_beq_eq_false->Oi,le_of_ble_eq_true->Om,add_lt_add_left->Ou,add_right_comm->OE,succ_ne_zero->OS,succ_ne_self->OT,min_le_right->OU,max_eq_right->OV,max_eq_left->Pa,le_add_left->Pb,mul_assoc->Pl,pow_succ->Pu,lt_or_ge->Pw,mul_two->PL,add_mul->PM,succ_add_eq_add_succ->J3,le_add_right_of_le->K0,sub_lt_sub_right->M2,not_succ_le_self->M3,sub_pos_of_lt->R1,min_eq_right->S5,zero_lt_two->U0,min_le_left->U1,min_eq_left->U2
open PyProof.Rows renaming wpS_bind->bz,SortSt->bB,wpS_pure->bI,seqObj->cA,pendingOf->de,Keyed->ee,wpS_mono->ma,wpS_forRange->nr,failedOf->pq,wpS_get->pz,mapSeq_push->qz,wpS_modify->uj,SortKind->uy,listUpdate_at->wJ,wpS_lift->wS,tuples'->wV,get?_update_seq->yR,slot_tuple_getitem->BV,listItems_at->Cz,seqEpoch_at->CF,mirror_perm->CG,sortedAll->CS,keyKind'->HY,loadName_read->PK,Subscript_->Qd,IsTup->G7
open PySem.Heap renaming get?_push_of_some->bW,get?_push_size->dy,get?_update_self->fK,lt_size->fN,size_push->hV,SameBut->lU,ExtBut->yW,size_update->R0
open Array renaming getElem?_eq_getElem->ct,length_toList->cu,getElem?_toList->fj,toList_push->kH,toList_append->lq,toList_extract->nW,getD->pi,getElem_mem_toList->qn,getElem?_eq_none->qo,perm_iff_toList_perm->rR,getElem?_eq_some_iff->rS,size_push->ua,toArray_toList->yJ,size_extract->BS,eraseIdxIfInBounds->Gv,toList_modify->GN,forIn_toList->GO,replicate->Hk,isEmpty_iff_size_eq_zero->NV,toList_setIfInBounds->Ob,toList_reverse->On,size_map->Pc,size_setIfInBounds->H6,toList_filterMap->J4,getElem?_extract->J5,getElem?_push->K9,any_eq_false'->M0,size_append->N1,toList_map->O7,toList_inj->O8,any_toList->O9,pop_push->T1,mem_def->U7
open Ne renaming symm->cI
open PySem.Obj renaming mapSeq->dc,mapFields->yT,putSet->yZ,mapDictKeys->Ci,putNameByArray->GQ,putName_eq->Hs,data_mapFields->N7
open PySem.Heap.SameBut renaming update->dA,refl->Oj
open List.cons renaming inj->dN,injEq->tZ
open PySem.Value renaming none->ga,type->kJ,ref->lY,builtin->qx,int->HP,isStr->Pt,isInt_shape->M6,isStrOf->T7
open Option.some renaming inj->gn
open PySem.PyData renaming strOk->gp,eqv->HH,canLayAll0->Ox,depthAll->ON,keyHash->P9,eqvAll->S0
open Classical renaming byContradiction->gX,propDecidable->Gu,typeDecidableEq->E9
open Int renaming toNat_natCast->hH,not_lt->sh,ofNat->uq,natCast_nonneg->wA,zero_add->wM,ofNat_lt->wN,ofNat_le->wO,sub_nonneg_of_le->yL,le_trans->yV,le_of_eq->HE,add_zero->HF,lt_of_le_of_lt->OF,ofNat_inj->Pn,mul_assoc->Po,toNat_lt->Px,lt_trans->Py,le_of_lt->Pz,mul_add->PN,not_le->PP,mul_nonpos_of_nonpos_of_nonneg->E7,eq_ofNat_of_zero_le->J7,fmod_nonneg_of_pos->K7,fmod_lt_of_pos->O4,add_sub_cancel->O5,add_left_comm->R7,neg_one_mul->U5,sub_le_sub->V4,mul_nonneg->V5
open Bool renaming and_eq_true_iff->iu,false_ne_true->lr,eq_false_iff->qr,and_eq_true->tX,false_eq_true->OC,and_false->Pe,or_eq_true_iff->M5,not_eq_true'->O6,eq_iff_iff->T0,not_false->U6
open PySem.SetTable renaming insertAt->iZ,bits->lT,below->ni,turns->pd,leap->qw,Probe->sd,runEnd->wD,has->Hv,layClean->Oq,tooFull->Ov,advance->Ow,grown->OM,fits->OW,fill->OX,sizeAbove->J6,relaid->M1,slot->N4,laid->N5
open Option renaming map_eq_some_iff->jX,ne_none_iff_exists'->tM,map_some->wE,isSome_iff_exists->BK,map_none->Ha,map->HI,elim_some->OG,some->Pp,bind_eq_some_iff->H2,some_ne_none->J9,getD_none->M7
open PySem.F renaming slot_list_append->lR,type_list_append->mY,slot_list_extend->rT,slot_zip_next->rV,plain_extend_loop->tN,called_set->tP,slot_dict_setdefault->yH,type_dict_setdefault->BG,slot_dict_keyiterator_next->BH,type_list_extend->BJ,slot_tuple_iterator_next->Gk,entry_extend_loop->Gq,args_zip_next_1->Gw,entry_zip_next->Gy,slot_tuple_hash->GU,args_list_extend_2->NY,entry_list_extend->Oa,args_tuple_add_2->Oc,entry_tuple_add->Od,slot_tuple_add->Of,slot_list_pop->Og,slot_dict_len->Oh,args_tuple_iterator_next_1->D9,entry_tuple_iterator_next->E0,slot_str_isspace->F5,slot_str_getitem->F6,args_dict_keyiterator_next_1->F7,plain_list_iadd->F9,plainAttrs_dict->G0,entry_dict_keyiterator_next->G4,args_list_add_2->G5,entry_list_add->H1,type_list_pop->H8,slot_zip_iter->H9,slot_tuple_lt->I0,slot_set_iter->I4,slot_list_add->I5,slot_dict_pop->I6,slot_dict_get->I8,plain_set_new->I9,slot_dict_iter->V0
open PySem.W renaming boot_heap->lZ,kas_rev->nw,findIn->og,keepIn->pA,callWith_of->wQ,SharedT->wU,absHeap->zl,boot_drawn->CM,kas_place->CQ,boot_toks->CR,kas_desc->CT,kas_descPart->HL,namesBound->Qc
open PySem.NameKind renaming free->nj,cell->ud
open PySem.Env renaming kindOf->pj
open PySem.Builtin.SmallTypes renaming nextOf->qm,ownedTupleIsFree->NO,ownedTupleHandOut->Z8,calledThroughType->Z9
open Nat.succ renaming inj->qy
open PySem.Around renaming under_plainId->rW
open List.Perm renaming refl->ub,append_left->wu,cons->yQ,trans->BY,of_eq->BZ,append_right->Gx,swap->Hc
open Iff renaming rfl->uA
open PySem.SetTable.layClean renaming free->wt
open Prod.mk renaming inj->wP,injEq->Ho
open Or renaming elim->wT
open PyProof.Rows.SortSt renaming mk'->yX
open PySem.W.WData renaming int->ze
open Prod renaming snd->zi,fst->CO
open LT renaming lt->zo
open PySem.Builtin.List renaming listSameRef->BI,listExtendWith->NU,listLengthHint->E4
open PySem.SetTable.probe renaming go->BR
open Array.Perm renaming refl->BX
open PySem.W.KasT renaming kasWp_bind->Cc,ret->CN
open PUnit renaming unit->CD
open PySem.Sem renaming wp->CY
open PySem.Challenge renaming rw_pq0068_01->Gl,pw_pq0068_01->Gm
open PySem.Builtin.Tuple renaming tupleHashOf->Gn,tupleItemsOf->E3,tupleExact->E6
open PySem.Builtin.Slice renaming slicePlaces->Go,sliceAdjust->NW
open PySem.Builtin.Dict renaming takeOut->Gz,pendingCount->NX,notOrdered->NZ,missedRemoval->E5,showsAll->F0
open PySem.SetTable.below renaming go->GG
open ForInStep renaming yield->GS
open PySem.W.Looks renaming of_pure->Hu
open PyProof.Rows.F renaming plain_set_update_loop->NP,entry_set_update_loop->D7
open PySem.W.Fast renaming tw14364793385576792824->NQ,te14364793385576792824->NR
open PySem.W.WShape renaming hasItems->OL
open PySem.Shared renaming TypeIs->Pd,heap->U9
open PySem.Code renaming compLoop->Pg
open PySem.BoolOp renaming And->PA
open PySem.Walks renaming list->PH
open PySem.W.WTm renaming holds->PW
open And renaming intro->PX
open PySem.Builtin.Dict_items renaming ownsTuple->D8
open PySem.Builtin renaming divisionGoesByPylong->E8
open PySem.Builtin.Range renaming small->F3
open PySem.AutoSeq1 renaming wpAny_loadPart'->F4
open PySem.Calls renaming call_function_entry->G6,loadGlobal_global->J0,call_len_list->K8
open PySem.DictEntry renaming refKey->J8
open StateT renaming run_pure->N2
open PySem.P renaming lt_int->N6
open PySem.IsRange renaming new->T8
open PySem.CmpOf renaming ints_gt->T9
open PySem.W.isTupleDisplay renaming match_1->Z2
open PySem.Builtin.bookMore renaming match_1->Z5
open PyProof.Rows.readsX0 renaming match_1->Z6
open PySem.Value.onHeap renaming match_1->Z7
open PySem.W.theClassW renaming match_1->aaa
open PySem.Builtin.Frozenset renaming updateFrom->aab,slot0->aac,sizeOf->aad,newClass->aae
open PySem.W.wdefsOf renaming match_5->aaf
open PySem.W.ownDict renaming match_6->aag
open PySem PySem.W PyProof.Rows
set_option Elab.async false
set_option linter.unusedVariables false
set_option linter.unusedSimpArgs false
set_option linter.all false
set_option genSizeOf false
set_option genSizeOfSpec false
namespace Internal
section
noncomputable def dq(t:Addr)(i:Nat):Obj:={cls:= .type "tuple_iterator",data:= .fields #[.ref t,.int i 0]}
noncomputable def eB(a b:Value):Obj:={cls:= .type "tuple",data:= .seq #[a,b]}
noncomputable abbrev zh(h:Heap)(t1 t2:Addr):Heap:=((((h.push<|dq t1 0).push<|dq t2 0).push<|eB (.ref h.objs.size)<|.ref (h.push<|dq t1 0).objs.size).push<|eB .none .none).push {cls:= .type "zip",data:= .fields #[.none,.bool false,.bool false,.ref ((h.push<|dq t1 0).push<|dq t2 0).objs.size,.ref (((h.push<|dq t1 0).push<|dq t2 0).push<|eB (.ref h.objs.size)<|.ref (h.push<|dq t1 0).objs.size).objs.size]}
noncomputable abbrev FZ(h:Heap)(t1 t2:Addr):Addr:=((((h.push<|dq t1 0).push<|dq t2 0).push<|eB (.ref h.objs.size)<|.ref (h.push<|dq t1 0).objs.size).push<|eB .none .none).objs.size
theorem SD(l1 l2:Addr)(xs ys:Array Value):Meets (jd.«zip.__new__» ⟨[.type "zip",.ref l1,.ref l2],[]⟩) (λZ R s=>s.heap.IsTuple l1 xs/\s.heap.IsTuple l2 ys/\R (.ok<|.ret<|.ref<|FZ s.heap l1 l2) {s with heap:=zh s.heap l1 l2}):= .of_wp λprog w A R s h=>by obtain⟨hp,g,d,q,os⟩:=s;obtain⟨j,l,h⟩:=h;have p:=sub_zip;have m:Heap.IsTuple (U9 ⟨hp.push {cls:= .type "tuple_iterator",data:= .fields #[.ref l1,.int 0 0]},g,d,q,os⟩) l2 ys:=Heap.IsTuple.push l _;wp_walk using BU j,BU m;exact⟨_,rfl,h⟩
@[elab_as_elim] theorem KG {α:Sort u} {a:α} {motive:α->Prop} {b:α} (h:a=b) (k:motive b):motive a:=h▸k
@[elab_as_elim] theorem Tp {α:Sort u} {a b:α} {motive:α->Prop} (h:a=b) (k:motive a):motive b:=h▸k
@[elab_as_elim] theorem SH {a:Prop} {motive:Prop->Prop} {b:Prop} (h:a↔b) (k:motive b):motive a:=KG (propext h) k
theorem ai{α:Sort u}{P:α->Prop}{g:Prop}(h:∃x,P x)(k:∀x,P x->g):g:=h.elim k
theorem aE{α:Sort u}{j:Sort v}{P:α->j->Prop}{g:Prop}(h:∃x y,P x y)(k:∀x y,P x y->g):g:=h.elim λx h=>h.elim<|k x
theorem gz{α:Sort u}{j:Sort v}{l:Sort w}{P:α->j->l->Prop}{g:Prop}(h:∃x y z,P x y z)(k:∀x y z,P x y z->g):g:=h.elim λx h=>aE h<|k x
theorem jV{α:Sort u}{j:Sort v}{l:Sort w}{m:Sort p}{P:α->j->l->m->Prop}{g:Prop}(h:∃x y z t,P x y z t)(k:∀x y z t,P x y z t->g):g:=h.elim λx h=>gz h<|k x
theorem aw{a b g:Prop}(h:a/\b)(k:a->b->g):g:=k h.1 h.2
theorem aN{a b c g:Prop}(h:a/\b/\c)(k:a->b->c->g):g:=aw h.2<|k h.1
theorem bV{a b c d g:Prop}(h:a/\b/\c/\d)(k:a->b->c->d->g):g:=aN h.2<|k h.1
theorem fi{a b c d e g:Prop}(h:a/\b/\c/\d/\e)(k:a->b->c->d->e->g):g:=bV h.2<|k h.1
theorem gS{a b c d e f g:Prop}(h:a/\b/\c/\d/\e/\f)(k:a->b->c->d->e->f->g):g:=fi h.2<|k h.1
theorem qY{a b c d e f i g:Prop}(h:a/\b/\c/\d/\e/\f/\i)(k:a->b->c->d->e->f->i->g):g:=gS h.2<|k h.1
theorem Ti{a b c d e f i j g:Prop}(h:a/\b/\c/\d/\e/\f/\i/\j)(k:a->b->c->d->e->f->i->j->g):g:=qY h.2<|k h.1
theorem lI{a b c d e f i j l g:Prop}(h:a/\b/\c/\d/\e/\f/\i/\j/\l)(k:a->b->c->d->e->f->i->j->l->g):g:=Ti h.2<|k h.1
theorem IB{a b c d e f i j l m g:Prop}(h:a/\b/\c/\d/\e/\f/\i/\j/\l/\m)(k:a->b->c->d->e->f->i->j->l->m->g):g:=lI h.2<|k h.1
theorem bv{α:Sort j}{g:Sort l}{P:α->g->Prop}(x:α)(y:g)(h:P x y):∃x y,P x y:=⟨x,y,h⟩
theorem jQ{α:Sort l}{g:Sort m}{j:Sort p}{P:α->g->j->Prop}(x:α)(y:g)(z:j)(h:P x y z):∃x y z,P x y z:=⟨x,y,z,h⟩
theorem oG{α:Sort m}{g:Sort p}{j:Sort q}{l:Sort r}{P:α->g->j->l->Prop}(x:α)(y:g)(z:j)(t:l)(h:P x y z t):∃x y z t,P x y z t:=⟨x,y,z,t,h⟩
theorem aR{a b c:Prop}(h0:a)(h1:b)(g:c):a/\b/\c:=⟨h0,h1,g⟩
theorem cx{a b c d:Prop}(h0:a)(h1:b)(g:c)(h:d):a/\b/\c/\d:=⟨h0,h1,g,h⟩
theorem km{a b c d e:Prop}(h0:a)(h1:b)(g:c)(h:d)(j:e):a/\b/\c/\d/\e:=⟨h0,h1,g,h,j⟩
theorem tG{a b c d e f:Prop}(h0:a)(h1:b)(g:c)(h:d)(j:e)(l:f):a/\b/\c/\d/\e/\f:=⟨h0,h1,g,h,j,l⟩
theorem zU{a b c d e f i:Prop}(h0:a)(h1:b)(g:c)(h:d)(j:e)(l:f)(m:i):a/\b/\c/\d/\e/\f/\i:=⟨h0,h1,g,h,j,l,m⟩
theorem Ao{a b c d e f i j l:Prop}(h0:a)(h1:b)(g:c)(h:d)(m:e)(p:f)(q:i)(r:j)(z:l):a/\b/\c/\d/\e/\f/\i/\j/\l:=⟨h0,h1,g,h,m,p,q,r,z⟩
theorem Ut{a b c d e f i j l m:Prop}(h0:a)(h1:b)(g:c)(h:d)(p:e)(q:f)(r:i)(z:j)(C:l)(D:m):a/\b/\c/\d/\e/\f/\i/\j/\l/\m:=⟨h0,h1,g,h,p,q,r,z,C,D⟩
theorem me{α:Type u}{l:List α}{a:α}(i:Nat)(h:l[i]? =some a:=by rfl):a∈l:=fZ h
theorem tL{α:Sort u}{c:Prop}[Decidable c]{P:α->Prop}{a b:α}(h:c->P a)(k:¬c->P b):P (if c then a else b):=by
 by_cases x:c
 .rw[if_pos x];exact h x
 .rw[if_neg x];exact k x
theorem Ma{α:Sort u}{c:Prop}[Decidable c]{a b d e:α}(h:c->a=d)(k:¬c->b=e):(if c then a else b)=if c then d else e:=tL (P:=(·=if c then d else e)) (λx=>(h x).trans (if_pos x).symm) λx=>(k x).trans (if_neg x).symm
theorem sn{α:Type u}{a:α}:some a≠none:=J9 a
theorem ns{α:Type u}{a:α}:none≠some a:=(J9 a).symm
theorem rK:¬(false=true):=lr
theorem kL{α:Type u}[BEq α][LawfulBEq α]{a:α}:¬((a !=a)=true):=(bne_self_eq_false a).symm▸rK
theorem lb{n m:Nat}(h:HU n m=true):n<=m:=Om h
theorem bp{α:Type u}{a:α}{P:Prop}(h:none=some a):P:=(ns h).elim
theorem cU{α:Type u}{a:α}{P:Prop}(h:some a=none):P:=(sn h).elim
theorem cX{α:Type u}{a:α}{P:Prop}(h:a∈[]):P:=(wB h).elim
theorem ek{P:Prop}(h:false=true):P:=(rK h).elim
theorem vj{P:Prop}(h:true=false):P:=(rK h.symm).elim
theorem rq{α:Type u}{a:α}{l:List α}{P:Prop}(h:a::l=[]):P:=(GY a l h).elim
theorem nE{α:Type u}{a:α}{l:List α}{P:Prop}(h:[]=a::l):P:=(GY a l h.symm).elim
open PySem in
theorem tl{g:Type}{M:oh}{A:cj}{E:Value->aA->Prop}{T m:Sem g}{Q:g->aA->Prop}{s:aA}(main:ao M A T Q E s->ao M A m Q E s)(pr:ao M A T Q E s):ao M A m Q E s:=main pr
open PySem in
theorem Tf{α:Type}{P:α->Prop}{v:Value}{F:Str->Tok->α}{G:α}(hs:∀s t,v= .str s t->P (F s t))(hg:P G):P (setScan.match_1 (λZ=>α) v F λZ=>G):=by cases v<;>first|exact hg|exact hs _ _ rfl
open PySem in
theorem Ri{α:Type}{P:α->Prop}{v:Value}{F:Addr->α}{G:α}(hs:∀a,v= .ref a->P (F a))(hg:P G):P (Value.onHeap.match_1 (λZ=>α) v F λZ=>G):=by cases v<;>first|exact hg|exact hs _ rfl
theorem uM{α:Type u}{a:α}:[a].Nodup:=iM.mpr ⟨wB,hX⟩
theorem kg{α:Type u}{l:List α}{x:α}(h:l.Nodup)(n:x∉l):(l++[x]).Nodup:=rY.mpr ⟨h,uM,λZ g Z hb e=>n<|e.trans (ci.mp hb)▸g⟩
theorem nq{α:Type u}{l:List α}(h:l.Nodup)(i j:Nat){a b:α}(hi:l[i]? =some a:=by rfl)(hj:l[j]? =some b:=by rfl)(g:CV i j=false:=by rfl):a≠b:=λe=>Oi g<|(OJ (dJ.mp hi).1 h).mp<|hi.trans<|e▸hj.symm
theorem nm{α:Type u}{l:List α}{x:α}(h:x∉l)(i:Nat){a:α}(hi:l[i]? =some a:=by rfl):x≠a:=λe=>h<|e▸fZ hi
theorem Ip{α:Type u}{l:List α}{x:α}(h:x∉l)(n:Nat):x∉l.drop n:=λm=>h<|GH m
theorem oK{α:Type u}{l:List α}(h:l.Nodup)(i n:Nat){a b:α}(m:b∈l.drop n)(hi:l[i]? =some a:=by rfl)(g:HU (i+1) n=true:=by rfl):b≠a:=λe=>by refine ai (gk.mp m) λj hj=>?_;rw[List.getElem?_drop] at hj;have:=(OJ (dJ.mp hi).1 h).mp<|hi.trans<|e▸hj.symm;exact hZ (fL (lb g)<|kI n j) this
theorem fa{α:Type u}{P:α->Prop}{a:α}{l:List α}(h:P a)(k:∀x∈l,P x):∀x∈a::l,P x:=mZ.mpr ⟨h,k⟩
theorem dF{α:Type u}{P:α->Prop}:∀x∈[],P x:=λZ h=>cX h
theorem pR{α:Type u}{a:α}{l:List α}(h:∀x∈l,a≠x)(k:l.Nodup):(a::l).Nodup:=iM.mpr ⟨λm=>h a m rfl,k⟩
end
set_option compiler.extract_closed false
def sN(k:Lean.Name)(a:Array Lean.Syntax):Lean.Syntax:= .node .none k a
def sP(k:String)(a:Array Lean.Syntax):Lean.Syntax:=sN (.str `Lean.Parser.Tactic k) a
def sY(k:String)(a:Array Lean.Syntax):Lean.Syntax:=sN (.str `Lean.Parser.Term k) a
def sA(s:String):Lean.Syntax:= .atom .none s
def sQ(l:List Lean.Syntax):Lean.Syntax:=sP "tacticSeq" #[sP "tacticSeq1Indented" #[sN `null (l.foldl (λa t=>a.push t|>.push (sA ";")) #[])]]
def sT(s:String):Lean.Syntax:=sN `PyProof.Rows.tacticTm_at_ #[sA "tm_at",Lean.Syntax.mkStrLit s]
def sH:Lean.Syntax:=sY "syntheticHole" #[sA "?",sA "_"]
def sF(l:List Lean.Syntax):Lean.Syntax:=sP "first" #[sA "first",sN `null (l.map λa=>sN `group #[sA "|",sQ [a]]).toArray]
def sR(n:Lean.Name)(l:Array Lean.Syntax):Lean.Syntax:=sP "refine" #[sA "refine",sY "app" #[Lean.mkIdent n,sN `null l]]
def sW(s:String):Lean.Syntax:=if s=="r" then sP "tacticRfl" #[sA "rfl"] else if s=="a" then sP "assumption" #[sA s] else if s=="d" then sP "decide" #[sA s,sP "optConfig" #[sN `null #[]]] else sT s
def sG(c:String):Lean.Syntax:=if c=="?" then sH else if c=="f" then sY "fun" #[sA c,sY "basicFun" #[sN `null #[sY "hole" #[sA "_"],sY "hole" #[sA "_"]],sN `null #[],sA "=>",sY "byTactic" #[sA "by",sQ [sW "r"]]]] else if c.length==1 then sY "byTactic" #[sA "by",sQ [sW c]] else Lean.mkIdent (.mkSimple c)
def sU(a:String):Lean.Syntax:=match a.splitOn " " with
 |n::l=>if l.isEmpty then sW n else if n=="@" then sP "apply" #[sA n,sG l.head!] else sR (.mkSimple n) (l.map sG).toArray
 |_=> .missing
def sS(s:String):Lean.Syntax:=sF ((s.splitOn "|").map λb=>sP "paren" #[sA "(",sQ ((b.splitOn ";").map sU),sA ")"])
def sE(e:Lean.Syntax)(s:Lean.Name):Lean.Syntax:=sR s #[sY "app" #[e,sN `null #[sY "ellipsis" #[sA ".."]]],sH]
def sX:List (String×String):=[("k","@ V6;a;r|@ Y5;a;a;r;r|@ Y0;a;r;r"),("S","s|W0 ?|W7 ?|Kt ?|Z0 ?|TW ?"),("s","aU ?|eX ?|pU ?|cE ?|bJ r ?|cf r ?|xF ?|JZ ?|Y7 ?|xB ?|W6 ?|Ap ?|jA f ?|tm r ?|sD r ?|lP r ?|iD ?|Xd ?|ba ?|iT ?|rJ a k d r r ?|Lf a k d r r ?|cz ?|jL ?|EJ ?"),("1","jL ?|V9 ?"),("2","DL As r r ?;vy r ?;1;vy r ?;1;FV ?"),("m","W1 r r ?"),("l","bJ r ?"),("A","bJ a ?"),("c","bJ a ?|cf a ?")]
local macro_rules (kind:=PyProof.Rows.tacticTm_at_)
 |x=>do
  let s:=x[1].isStrLit?.getD ""
  let t:=sS ((sX.lookup s).getD s)
  return if s=="S" then sP "tacticRepeat_" #[sA "",sQ [t]] else t
local macro_rules (kind:=Lean.Parser.Tactic.show)
 |x=>return sP "refine" #[sA "",sY "typeAscription" #[sY "hygienicLParen" #[sA "(",sN `hygieneInfo #[Lean.mkIdent .anonymous]],sH,sA ":",sN `null #[x[1]],sA ")"]]
local macro_rules (kind:=Lean.Parser.Tactic.rewriteSeq)
 |x=>do
  if x[3].getNumArgs>0 then Lean.Macro.throwUnsupported
  let l:=x[2][1].getArgs.toList.filter (·.getNumArgs==2)
  match l with
  |[r]=>return sF (((if r[0].getNumArgs==0 then [`Internal.KG,`Iff.mpr,`Internal.SH] else [`Internal.Tp,`Iff.mp]).map (sE r[1]))++[x.setArg 3 (sN `null #[sP "location" #[sA "at",sP "locationHyp" #[sN `null #[sP "locationType" #[sA "⊢"]]]]])])
  |_=>return sP "paren" #[sA "(",sQ (l.map λr=>x.setArg 2 (x[2].setArg 1 (sN `null #[r]))),sA ")"]
local macro_rules (kind:=PySem.W.tacticLk)
 |x=>return sT "S"
local macro_rules (kind:=Lean.calcTactic)
 |x=>return sP "refine" #[sA "",x[1][0][0]]
set_option genSizeOf false
set_option genSizeOfSpec false
set_option genCtorIdx false
set_option genInjectivity false
set_option bootstrap.genMatcherCode false
set_option compiler.postponeCompile true
set_option maxHeartbeats 0
section
set_option genInjectivity false
namespace Z
inductive T|v (i:Nat)|n (k:Nat)|a (x y:T)|s (x y:T)|m (k:Nat) (x:T)|i (x y:T)|j (x y:T)
noncomputable def T.ev(c:List Nat):T->Nat:=T.rec (λi=>c.getD i 0) (λk=>k) (λZ Z x y=>x+y) (λZ Z x y=>x -y) (λk Z x=>k*x) (λZ Z x y=>min x y) λZ Z x y=>max x y
inductive W|c (x:T)|k (n:Int)|a (x y:W)|s (x y:W)|g (x:W)
noncomputable def W.ev(c:List Nat):W->Int:=W.rec (λx=>(x.ev c:Nat)) (λn=>n) (λZ Z x y=>x+y) (λZ Z x y=>x -y) λZ x=> -x
inductive L|le (x y:T)|lt (x y:T)|eq (x y:T)|ME (x y:W)|Iz (x y:W)|Jg (x y:W)|no (p:L)|an (p q:L)|o (p q:L)|im (p q:L)
noncomputable def L.ev(c:List Nat):L->Prop:=L.rec (λx y=>x.ev c<=y.ev c) (λx y=>x.ev c<y.ev c) (λx y=>x.ev c=y.ev c) (λx y=>x.ev c<=y.ev c) (λx y=>x.ev c<y.ev c) (λx y=>x.ev c=y.ev c) (λZ p=>¬p) (λZ Z p q=>p/\q) (λZ Z p q=>p\/q) λZ Z p q=>p->q
noncomputable abbrev Sm:=Int×List Int
noncomputable def gE:List Int->List Nat->Int:=gq (λZ=>0) λk Z g c=>k*(c.getD 0 0:Nat)+g (c.drop 1)
noncomputable def Sm.ev(c:List Nat)(f:Sm):Int:=f.1+gE f.2 c
noncomputable def zN:List Int->List Int->List Int:=gq (λb=>b) λx a g b=>gq (x::a) (λy b Z=>(x+y)::g b) b
noncomputable def Bd(k:Int):List Int->List Int:=gq [] λx Z g=>(k*x)::g
theorem W8(c:List Nat):gE [] c=0:=rfl
theorem yg(k:Int)(a:List Int)(c:List Nat):gE (k::a) c=k*(c.getD 0 0:Nat)+gE a (c.drop 1):=rfl
theorem a4(a b c d:Int):a+b+(c+d)=a+c+(b+d):=by rw[Int.add_assoc,R7 b,<-Int.add_assoc]
theorem Wq:∀(a b:List Int) (c:List Nat),gE (zN a b) c=gE a c+gE b c:=by
 intro g;induction g with
 |nil=>
  calc λb c=>(wM _).symm
 |cons x a j=>
  intro h;cases h with
  |nil=>
   calc λc=>(HF _).symm
  |cons y b=>
   intro c;show gE ((x+y)::zN a b) c=_;rw[yg,yg,yg,j b,Int.add_mul];calc a4 ..
theorem Xo(k:Int):∀(a:List Int) (c:List Nat),gE (Bd k a) c=k*gE a c:=by
 intro g;induction g with
 |nil=>
  calc λc=>(Int.mul_zero k).symm
 |cons x a h=>
  intro c;show gE ((k*x)::Bd k a) c=_;rw[yg,yg,h,PN,Po]
noncomputable def Sm.add(f g:Sm):Sm:=(f.1+g.1,zN f.2 g.2)
noncomputable def Sm.mul(k:Int)(f:Sm):Sm:=(k*f.1,Bd k f.2)
noncomputable def Sm.sub(f g:Sm):Sm:=f.add<|g.mul (-1)
theorem AX(c:List Nat)(f g:Sm):(f.add g).ev c=f.ev c+g.ev c:=by show f.1+g.1+gE (zN f.2 g.2) c=f.1+gE f.2 c+(g.1+gE g.2 c);rw[Wq];calc a4 ..
theorem xe(c:List Nat)(k:Int)(f:Sm):(f.mul k).ev c=k*f.ev c:=by show k*f.1+gE (Bd k f.2) c=k*(f.1+gE f.2 c);rw[Xo,PN]
theorem jw(c:List Nat)(f g:Sm):(f.sub g).ev c=f.ev c -g.ev c:=by rw[AX,xe,U5];rfl
noncomputable def BA:Nat->List Int:=Nat.rec [1] λZ g=>0::g
theorem So:∀(i:Nat) (c:List Nat),gE (BA i) c=(c.getD i 0:Nat):=by
 intro g;induction g with
 |zero=>
  intro c;show 1*_+0=_;rw[Int.one_mul,HF]
 |succ i h=>
  intro c;show 0*_+gE (BA i) (c.drop 1)=_;rw[h,Int.zero_mul,wM];cases c<;>rfl
noncomputable abbrev sJ:=List<|List Sm×Sm
noncomputable def prod{α g h:Type}(f:α->g->List h)(x:List α)(y:List g):List h:=x.flatMap λa=>y.flatMap λb=>f a b
noncomputable def T.ju:T->sJ:=T.rec (λi=>[([],(0,BA i))]) (λk=>[([],(k,[]))]) (λZ Z x y=>prod (λa b=>[(a.1++b.1,a.2.add b.2)]) x y) (λZ Z x y=>prod (λa b=>[(a.2.sub b.2::(a.1++b.1),a.2.sub b.2),(b.2.sub a.2::(a.1++b.1),(0,[]))]) x y) (λk Z x=>x.map λa=>(a.1,a.2.mul k)) (λZ Z x y=>prod (λa b=>[(b.2.sub a.2::(a.1++b.1),a.2),(a.2.sub b.2::(a.1++b.1),b.2)]) x y) λZ Z x y=>prod (λa b=>[(a.2.sub b.2::(a.1++b.1),a.2),(b.2.sub a.2::(a.1++b.1),b.2)]) x y
noncomputable def mS(c:List Nat)(l:List Sm):Prop:=∀f∈l,0<=Sm.ev c f
theorem lA{c:List Nat}{a b:List Sm}(h:mS c a)(k:mS c b):mS c (a++b):=λf hf=>(ca.mp hf).elim (h f)<|k f
theorem nC{c:List Nat}{a:List Sm}{g:Sm}(k:0<=g.ev c)(h:mS c a):mS c (g::a):=λf hf=>(dD.mp hf).elim (λe=>e▸k)<|h f
theorem uU(c:List Nat):mS c []:=λZ h=>(nomatch h)
noncomputable def Way(c:List Nat)(w:sJ)(n:Int):Prop:=∃a∈w,mS c a.1/\a.2.ev c=n
theorem nO{α g h:Type}{f:α->g->List h}{x:List α}{y:List g}{a:α}{b:g}{z:h}(j:a∈x)(hb:b∈y)(hz:z∈f a b):z∈prod f x y:=gI.mpr ⟨a,j,gI.mpr ⟨b,hb,hz⟩⟩
theorem zs{m n:Nat}(h:m<=n):(0:Int)<=n -m:=yL<|wO.mpr h
theorem tg(c:List Nat)(t:T):Way c t.ju (t.ev c:Nat):=by
 induction t with
 |v i=>calc⟨_,.head _,λZ h=>(nomatch h),by show 0+gE (BA i) c=_;rw[So,wM];rfl⟩
 |n k=>calc⟨_,.head _,λZ h=>(nomatch h),HF _⟩
 |a x y r hy=>
  obtain⟨a,p,h1,g⟩:=r;obtain⟨b,hb,q,l⟩:=hy;calc⟨_,nO p hb<|.head _,lA h1 q,?_⟩;rw[AX,g,l];rfl
 |s x y r hy=>
  obtain⟨a,p,h1,g⟩:=r;obtain⟨b,hb,q,l⟩:=hy;by_cases h:y.ev c<=x.ev c
  .refine⟨_,nO p hb<|.head _,nC ?_<|lA h1 q,?_⟩
   .rw[jw,g,l];exact zs h
   .rw[jw,g,l];exact(Int.ofNat_sub h).symm
  .refine⟨_,nO p hb<|.tail _<|.head _,nC ?_<|lA h1 q,congrArg uq (Nat.sub_eq_zero_of_le<|tY h).symm⟩
   .rw[jw,g,l];calc zs<|tY h
 |m k x r=>
  obtain⟨a,p,h1,g⟩:=r;calc⟨_,cL p,h1,?_⟩;rw[xe,g];calc(Int.natCast_mul ..).symm
 |i x y r hy=>
  obtain⟨a,p,h1,g⟩:=r;obtain⟨b,hb,q,l⟩:=hy;by_cases h:y.ev c<=x.ev c
  .refine⟨_,nO p hb<|.tail _<|.head _,nC (by rw[jw,g,l];calc zs h)<|lA h1 q,?_⟩;rw[l];exact congrArg uq (S5 h).symm
  .refine⟨_,nO p hb<|.head _,nC (by rw[jw,g,l];calc zs<|tY h)<|lA h1 q,?_⟩;rw[g];calc congrArg uq (U2<|tY h).symm
 |j x y r hy=>
  obtain⟨a,p,h1,g⟩:=r;obtain⟨b,hb,q,l⟩:=hy;by_cases h:y.ev c<=x.ev c
  .refine⟨_,nO p hb<|.head _,nC (by rw[jw,g,l];calc zs h)<|lA h1 q,?_⟩;rw[g];exact congrArg uq (Pa h).symm
  .refine⟨_,nO p hb<|.tail _<|.head _,nC (by rw[jw,g,l];calc zs<|tY h)<|lA h1 q,?_⟩;rw[l];calc congrArg uq (OV<|tY h).symm
noncomputable def W.ju:W->sJ:=W.rec T.ju (λn=>[([],(n,[]))]) (λZ Z x y=>prod (λa b=>[(a.1++b.1,a.2.add b.2)]) x y) (λZ Z x y=>prod (λa b=>[(a.1++b.1,a.2.sub b.2)]) x y) λZ x=>x.map λa=>(a.1,a.2.mul (-1))
theorem vB(c:List Nat)(t:W):Way c t.ju (t.ev c):=by
 induction t with
 |c x=>calc tg c x
 |k n=>calc⟨_,.head _,uU c,HF _⟩
 |a x y h hy=>
  obtain⟨a,j,h1,l⟩:=h;obtain⟨b,hb,m,p⟩:=hy;calc⟨_,nO j hb<|.head _,lA h1 m,by rw[AX,l,p];rfl⟩
 |s x y h hy=>
  obtain⟨a,j,h1,l⟩:=h;obtain⟨b,hb,m,p⟩:=hy;calc⟨_,nO j hb<|.head _,lA h1 m,by rw[jw,l,p];rfl⟩
 |g x h=>
  obtain⟨a,j,h1,l⟩:=h;calc⟨_,cL j,h1,by rw[xe,l];calc U5 _⟩
noncomputable abbrev Cs:=List<|List Sm
noncomputable def two(f:Sm->Sm->Cs)(x y:sJ):Cs:=prod (λa b=>(f a.2 b.2).map λl=>l++(a.1++b.1)) x y
noncomputable def Sm.dec(f:Sm):Sm:=(f.1 -1,f.2)
noncomputable def both(x y:Cs):Cs:=prod (λa b=>[a++b]) x y
noncomputable def FW(x y:sJ):Cs×Cs:=(two (λa b=>[[b.sub a]]) x y,two (λa b=>[[(a.sub b).dec]]) x y)
noncomputable def Ec(x y:sJ):Cs×Cs:=(two (λa b=>[[(b.sub a).dec]]) x y,two (λa b=>[[a.sub b]]) x y)
noncomputable def EY(x y:sJ):Cs×Cs:=(two (λa b=>[[b.sub a,a.sub b]]) x y,two (λa b=>[[(b.sub a).dec],[(a.sub b).dec]]) x y)
noncomputable def L.cs:L->Cs×Cs:=L.rec (λx y=>FW x.ju y.ju) (λx y=>Ec x.ju y.ju) (λx y=>EY x.ju y.ju) (λx y=>FW x.ju y.ju) (λx y=>Ec x.ju y.ju) (λx y=>EY x.ju y.ju) (λZ p=>(p.2,p.1)) (λZ Z p q=>(both p.1 q.1,p.2++q.2)) (λZ Z p q=>(p.1++q.1,both p.2 q.2)) λZ Z p q=>(p.2++q.1,both p.1 q.2)
noncomputable def lM(c:List Nat)(x:Cs):Prop:=∃l∈x,mS c l
theorem zZ(c:List Nat)(f:Sm):f.dec.ev c=f.ev c -1:=by calc Int.add_right_comm ..
theorem vD(g:Way c x m)(hy:Way c y n)(h:∀a b:Sm,a.ev c=m->b.ev c=n->lM c (f a b)):lM c (two f x y):=by obtain⟨a,j,h1,p⟩:=g;obtain⟨b,hb,q,r⟩:=hy;obtain⟨l,z,C⟩:=h a.2 b.2 p r;calc⟨_,nO j hb<|cL z,lA C<|lA h1 q⟩
theorem AY(h:0<=f.ev c):lM c [[f]]:=⟨_,.head _,nC h<|uU c⟩
theorem xC(h:lM c x)(k:lM c y):lM c (both x y):=by obtain⟨a,g,h1⟩:=h;obtain⟨b,hb,j⟩:=k;calc⟨_,nO g hb<|.head _,lA h1 j⟩
theorem Gd(h:lM c x):lM c (x++y):=ai h λl q=>⟨l,dh _ q.1,q.2⟩
theorem DO(h:lM c y):lM c (x++y):=ai h λl q=>⟨l,cn _ q.1,q.2⟩
noncomputable def Tells(c:List Nat)(P:Prop)(x:Cs×Cs):Prop:=(P->lM c x.1)/\(¬P->lM c x.2)
theorem z1{m n:Int}(h:m<n):0<=n -m -1:=Int.le_sub_one_of_lt<|Int.sub_pos_of_lt h
theorem JQ{m n:Int}(j:Way c x m)(hy:Way c y n):Tells c (m<=n) (FW x y):=⟨λh=>vD (f:=λa b=>[[b.sub a]]) j hy λa b g hb=>AY<|by rw[jw,g,hb];calc yL h,λh=>vD (f:=λa b=>[[(a.sub b).dec]]) j hy λa b g hb=>AY<|by rw[zZ,jw,g,hb];calc z1<|PP.mp h⟩
theorem NC{m n:Int}(j:Way c x m)(hy:Way c y n):Tells c (m<n) (Ec x y):=⟨λh=>vD (f:=λa b=>[[(b.sub a).dec]]) j hy λa b g hb=>AY<|by rw[zZ,jw,g,hb];calc z1 h,λh=>vD (f:=λa b=>[[a.sub b]]) j hy λa b g hb=>AY<|by rw[jw,g,hb];calc yL<|sh.mp h⟩
theorem Jy{m n:Int}(j:Way c x m)(hy:Way c y n):Tells c (m=n) (EY x y):=by
 refine⟨λh=>vD (f:=λa b=>[[b.sub a,a.sub b]]) j hy λa b g hb=>⟨_,.head _,nC ?_<|nC ?_<|uU c⟩,λh=>vD (f:=λa b=>[[(b.sub a).dec],[(a.sub b).dec]]) j hy λa b g hb=>?_⟩
 .rw[jw,g,hb];exact yL<|HE h
 .rw[jw,g,hb];exact yL<|HE h.symm
 .by_cases h':m<n
  .exact⟨_,.head _,nC (by rw[zZ,jw,g,hb];calc z1 h')<|uU c⟩
  .exact⟨_,.tail _<|.head _,nC (by rw[zZ,jw,g,hb];calc z1<|Int.lt_iff_le_and_ne.mpr ⟨sh.mp h',λe=>h e.symm⟩)<|uU c⟩
theorem Dc(h:Tells c P x)(e:g↔P):Tells c g x:=⟨λy=>h.1<|e.mp y,λy=>h.2 λz=>y<|e.mpr z⟩
theorem JN(c:List Nat)(p:L):Tells c (p.ev c) p.cs:=by
 induction p with
 |le x y=>calc Dc (JQ (tg c x)<|tg c y) wO.symm
 |lt x y=>calc Dc (NC (tg c x)<|tg c y) wN.symm
 |eq x y=>calc Dc (Jy (tg c x)<|tg c y) Pn.symm
 |ME x y=>calc JQ (vB c x)<|vB c y
 |Iz x y=>calc NC (vB c x)<|vB c y
 |Jg x y=>calc Jy (vB c x)<|vB c y
 |no p h=>calc⟨h.2,λk=>h.1<|Classical.not_not.mp k⟩
 |an p q h k=>calc⟨λx=>xC (h.1 x.1)<|k.1 x.2,λx=>(Classical.not_and_iff_not_or_not.mp x).elim (λx=>Gd<|h.2 x) λx=>DO<|k.2 x⟩
 |o p q h k=>calc⟨λx=>x.elim (λx=>Gd<|h.1 x) λx=>DO<|k.1 x,λx=>xC (h.2 λy=>x<|.inl y)<|k.2 λy=>x<|.inr y⟩
 |im p q h k=>calc⟨λx=>(Classical.em<|p.ev c).elim (λy=>DO<|k.1<|x y) λy=>Gd<|h.2 y,λx=>xC (h.1<|gX λy=>x λz=>(y z).elim)<|k.2 λy=>x λZ=>y⟩
noncomputable def neg:Int->Bool:=Int.rec (λZ=>false) λZ=>true
theorem Al:neg k=true↔k<0:=by cases k with
 |ofNat n=>calc⟨λh=>(nomatch h),λh=>absurd h<|sh.mpr<|wA n⟩
 |negSucc n=>calc⟨λZ=>Int.negSucc_lt_zero n,λZ=>rfl⟩
noncomputable def Sm.hd(f:Sm):Int:=gq 0 (λk Z Z=>k) f.2
noncomputable def Sm.tl(f:Sm):Sm:=(f.1,gq [] (λZ a Z=>a) f.2)
theorem IW(c:List Nat)(f:Sm):f.ev c=f.hd*(c.getD 0 0:Nat)+f.tl.ev (c.drop 1):=by
 obtain⟨n,a⟩:=f;cases a with
 |nil=>show n+0=0*(c.getD 0 0:Nat)+(n+0:Int);rw[Int.zero_mul,wM]
 |cons k a=>show n+(k*(c.getD 0 0:Nat)+gE a (c.drop 1))=k*(c.getD 0 0:Nat)+(n+gE a (c.drop 1));calc R7 ..
noncomputable def bad(f:Sm):Bool:=neg f.1&&f.2.all λk=> !neg (-k)
theorem Ko(h:(!neg (-k))=true):k<=0:=sh.mp λhk=>by rw[Al.mpr (Int.neg_neg_of_pos hk)] at h;calc(nomatch h)
theorem TG(c:List Nat):∀{a:List Int},(a.all λk=> !neg (-k))=true->gE a c<=0:=by
 intro a;induction a generalizing c with
 |nil=>intro _;calc Int.le_refl 0
 |cons k a g=>
  intro h;rw[V3,tX] at h;calc Int.add_nonpos (E7 (Ko h.1)<|wA _)<|g (c.drop 1) h.2
theorem XB(h:bad f=true):¬0<=f.ev c:=by unfold bad at h;rw[tX] at h;calc PP.mpr<|Int.add_neg_of_neg_of_nonpos (Al.mp h.1)<|TG c h.2
noncomputable def elim(l:List Sm):List Sm:=((l.filter λf=> !neg (-f.hd)).map Sm.tl)++prod (λp n=>[(p.tl.mul (-n.hd)).add (n.tl.mul p.hd)]) (l.filter λf=>neg (-f.hd)) (l.filter λf=>neg f.hd)
theorem z2(h:0<=-A+X)(k:0<=A+Y):0<=X+Y:=yV (Int.add_nonneg h k)<|HE<|by rw[a4,Int.add_left_neg,wM]
theorem Wt(h:mS c l):mS (c.drop 1) (elim l):=by
 refine lA (λf hf=>?_) λf hf=>?_
 .refine ai (bb.mp hf) λg j=>aw j λhg m=>?_;clear j;clear hf;subst m;calc aw (gK.mp hg) λh1 D=>?_;have q:=h g h1;rw[IW] at q;exact yV q<|yV (Int.add_le_add_right (E7 (Ko D)<|wA _) _)<|HE<|wM _
 .refine ai (gI.mp hf) λp j=>aw j λhp hf=>ai (gI.mp hf) λn j=>aw j λH hf=>?_
  rw[ci.mp hf,AX,xe,xe];calc aw (gK.mp hp) λI J=>aw (gK.mp H) λn1 n2=>?_;have r:=h p I;have a2:=h n n1;rw[IW] at r a2;have z:=V5 (Int.neg_nonneg_of_nonpos<|Pz<|Al.mp n2) r;have C:=V5 (Pz<|Int.neg_neg p.hd▸Int.neg_pos_of_neg (Al.mp J)) a2;rw[PN] at z C;have e: -n.hd*(p.hd*↑(c.getD 0 0))= -(p.hd*(n.hd*↑(c.getD 0 0))):=by rw[Int.neg_mul,<-Po,<-Po,Int.mul_comm n.hd]
  calc z2 (e▸z) C
noncomputable def inf:Nat->List Sm->Bool:=Nat.rec (λl=>l.any bad) λZ g l=>l.any bad||g (elim l)
theorem NE(h:l.any bad=true):¬mS c l:=λk=>ai (GZ.mp h) λf q=>XB q.2<|k f q.1
theorem WY:∀(n:Nat) {c:List Nat} {l:List Sm},inf n l=true->¬mS c l:=by
 intro g;induction g with
 |zero=>
  intro c l h;calc NE h
 |succ n j=>
  intro c l h;have h:(l.any bad||inf n (elim l))=true:=h;rcases M5.mp h with h|h
  .exact NE h
  .exact λk=>j h<|Wt k
noncomputable def hyps:List L->Cs:=gq [[]] λp Z g=>both p.cs.1 g
noncomputable def imp(c:List Nat)(g:L):List L->Prop:=gq (g.ev c) λp Z h=>p.ev c->h
theorem QA:∀{j:List L},(lM c (hyps j)->g.ev c)->imp c g j:=by
 intro l;induction l with
 |nil=>
  calc λh=>h ⟨[],.head _,uU c⟩
 |cons p j m=>
  calc λh=>λhp=>m λk=>h<|xC ((JN c p).1 hp) k
end Z
section
open Z
noncomputable abbrev Z.K:=List Z.T->List Z.W->List Z.L->List Z.L
noncomputable abbrev Z.F:=List Z.T->List Z.W->List Z.L->Z.K->List Z.L
noncomputable def Z.pt(x:Z.T):Z.F:=λt w l k=>k (x::t) w l
noncomputable def Z.pw(x:Z.W):Z.F:=λt w l k=>k t (x::w) l
noncomputable def Z.ut(f:Z.T->Z.T):Z.F:=λt w l k=>gq [] (λx t Y=>k (f x::t) w l) t
noncomputable def Z.bt(f:Z.T->Z.T->Z.T):Z.F:=λt w l k=>gq [] (λy t Y=>gq [] (λx t Y=>k (f x y::t) w l) t) t
noncomputable def Z.tw:Z.F:=λt w l k=>gq [] (λx t Y=>k t (.c x::w) l) t
noncomputable def Z.uw:Z.F:=λt w l k=>gq [] (λx w Y=>k t (.g x::w) l) w
noncomputable def Z.bw(f:Z.W->Z.W->Z.W):Z.F:=λt w l k=>gq [] (λy w Y=>gq [] (λx w Y=>k t (f x y::w) l) w) w
noncomputable def Z.Eh(f:Z.T->Z.T->Z.L):Z.F:=λt w l k=>gq [] (λy t Y=>gq [] (λx t Y=>k t w (f x y::l)) t) t
noncomputable def Z.sM(f:Z.W->Z.W->Z.L):Z.F:=λt w l k=>gq [] (λy w Y=>gq [] (λx w Y=>k t w (f x y::l)) w) w
noncomputable def Z.l1:Z.F:=λt w l k=>gq [] (λx l Y=>k t w (.no x::l)) l
noncomputable def Z.l2(f:Z.L->Z.L->Z.L):Z.F:=λt w l k=>gq [] (λy l Y=>gq [] (λx l Y=>k t w (f x y::l)) l) l
noncomputable def Z.t1:List Z.F:=[Z.l1,pt<|.v 0,Eh .le,pt<|.v 1,bt .a,pt<|.v 2,Eh .eq,Eh .lt,pt<|.n 1,bt .s,pt<|.v 3,pt<|.a (.v 0)<|.n 1,pt<|.a (.v 1)<|.n 1,l1,pt (.n 0)]
noncomputable def Z.t2:List Z.F:=[pt (.v 4),tw,pt<|.n 4,pt<|.a (.v 2)<|.n 1,pt<|.n 2,pt<|.n 1000000,pt<|.n 1000,pt<|.v 5,sM .Iz,pt<|.n 7,l2 .an,pt<|.n 5,pt<|.n 3,pt<|.a (.v 3)<|.n 1,sM .ME,pt<|.n 100,pt<|.n 50,pw<|.k 1,pw<|.k 0,pt<|.v 6,ut<|.m 2,bt .i,sM .Jg,pw<|.k 2305843009213693952,ut<|.m 4,bt .j,pt<|.n 16777216,l2 .o,pt<|.n 6,pw<|.k 3,bw .a,pt<|.n 18,pw<|.k 4611686018427387904,pt<|.n 64,ut<|.m 8,pt<|.n 60,bw .s,uw,pt<|.n 20,pt<|.n 690,pt<|.n 999999,pt<|.n 12,pt<|.n 30,pt<|.a (.v 4)<|.n 1,pt<|.n 9,ut<|.m 10,pt<|.n 8,pt<|.n 896,pt<|.n 52,pt<|.n 31,pt<|.n 10,pw<|.k 2,pt<|.n 29,pt<|.n 13,pt<|.n 2000,pt<|.n 1001,pt<|.n 400,pt<|.n 2401,pw<|.k 9223372036854775808,ut<|.m 5,pt<|.v 7,pt<|.v 8,pt<|.n 51,pt<|.n 40,pt<|.n 15,pt<|.n 21,ut<|.m 1,pt<|.n 32,pt<|.n 93,pt<|.n 460,pt<|.n 100000,pt<|.n 4096,pt<|.n 101,pt<|.n 1920,pt<|.n 463,pt<|.n 459,pw<|.k 2000,pt<|.n 245,pt<|.n 500,pt<|.n 28,pt<|.n 10000,pt<|.n 20000,pt<|.n 625,pt<|.n 62500,pt (.n 63)]
noncomputable def Z.dec:Nat->Nat->Z.K:=Nat.rec (λY Y Y l=>l) λY g c t w l=>Bool.rec (Bool.rec (Z.t1.getD (Nat.mod c 16) Z.l1 t w l<|g<|Nat.div c 16) (Z.t2.getD (Nat.mod (Nat.div c 16) 256) Z.l1 t w l<|g<|Nat.div c 4096)<|CV (Nat.mod c 16) 15) l<|CV c 0
noncomputable def im(c:List Nat)(n:Nat):Prop:=gq True (λg h Y=>imp c g h)<|Z.dec 99 n [] [] []
noncomputable def ck(n:Nat):Bool:=gq true (λg h Y=>(both (hyps h) g.cs.2).all<|inf 8)<|Z.dec 99 n [] [] []
theorem dB(c:List Nat)(n:Nat)(h:ck n=true:=by kernel_rfl!):im c n:=by
 unfold im ck at*
 generalize Z.dec 99 n [] [] []=l at*
 cases l with
 |nil=>calc trivial
 |cons g p=>calc QA λk=>gX λhg=>let ⟨l,j,m⟩:=xC k<|(JN c g).2 hg;WY 8 (jb.mp h l j) m
theorem dL(n:Nat)(h:ck n=true:=by kernel_rfl!):im [] n:=dB [] n h
theorem aB{x:Nat}(n:Nat)(h:ck n=true:=by kernel_rfl!):im [x] n:=dB [x] n h
theorem aq{x y:Nat}(n:Nat)(h:ck n=true:=by kernel_rfl!):im [x,y] n:=dB [x,y] n h
theorem ax{x y z:Nat}(n:Nat)(h:ck n=true:=by kernel_rfl!):im [x,y,z] n:=dB [x,y,z] n h
theorem aV{x y z u:Nat}(n:Nat)(h:ck n=true:=by kernel_rfl!):im [x,y,z,u] n:=dB [x,y,z,u] n h
theorem cK{x y z u t:Nat}(n:Nat)(h:ck n=true:=by kernel_rfl!):im [x,y,z,u,t] n:=dB [x,y,z,u,t] n h
theorem dU{x y z u t s:Nat}(n:Nat)(h:ck n=true:=by kernel_rfl!):im [x,y,z,u,t,s] n:=dB [x,y,z,u,t,s] n h
theorem oo{x y z u t s r:Nat}(n:Nat)(h:ck n=true:=by kernel_rfl!):im [x,y,z,u,t,s,r] n:=dB [x,y,z,u,t,s,r] n h
theorem half(h:l<r):l<=(l+r)/2/\(l+r)/2<r:=⟨(Nat.le_div_iff_mul_le U0).mpr<|PL l▸oY (lV h) l,(Nat.div_lt_iff_lt_mul U0).mpr<|PL r▸Nat.add_lt_add_right h r⟩
theorem mn(a b:Nat):min (a:Int) b=((min a b:Nat):Int):=by
 by_cases h:a<=b
 .rw[U2 h];exact Int.min_eq_left<|wO.mpr h
 .rw[S5 (tY h)];calc Int.min_eq_right<|wO.mpr<|tY h
theorem mx(a:Nat):max 0 (a:Int)=a:=Int.max_eq_right<|wA _
theorem zX{i:Int}(h:i<2^62):i<2^63:=Py h<|by decide
theorem Ja(h:0<=i): -2^63<=i:=yV (by decide) h
theorem Q0(h0:a<=1000000):a<=16777216:=(aB 144671114737) h0
theorem Q6{a b c:Nat}(h0:a=b)(h1:c<b):c<a:=(ax 30423586613) h0 h1
theorem Q7(h0:(a+50)<b):((a+1)+12)<b:=(aq 0x73429fb73410f1) h0
theorem Q8:a<=(a+1):=aB 689
theorem Q9(h0:a<=100):a<=1000000:=(aB 139033972721) h0
theorem yb{a b c:Nat}(h0:a=b)(h1:c<a):c<b:=(ax 30960457493) h0 h1
theorem xG{a:Nat}:a<=a:=aB 529
theorem vg:a<=(a+4):=aB 37760785
theorem uO(h0:a<b):¬(a=(b+4)):=(aq 0xd6402f31731) h0
theorem sI(h0:¬((a<=b)/\(b<=(a+4)))):¬(b=(a+4)):=(aq 0xd6402f13d0af2402f13231) h0
theorem tA(h0:a<b):a<(b+1):=(aq 8132401) h0
theorem uZ{a b c:Nat}(h0:a<b)(h1:b<c):a<c:=(ax 31431268179) h0 h1
theorem xY(h0:(a+1)<b):a<b:=(aq 7542587) h0
theorem tn{a b:Nat}(h0:a<b):a<=b:=(aq 2299697) h0
theorem sO:a<(a+1):=aB 1969
theorem yB(h0:a<=b):a<=(b+1):=(aq 2888241) h0
theorem qI(h0:1<=a):(a -1)<a:=(aB 1905791512) h0
theorem xh(h0:1<=a):1<=(a+1):=(aB 2851352) h0
theorem yw(h0:a<(b+1))(h1:¬(a=b)):a<b:=(aq 494319818289) h0 h1
theorem iN(h0:a<=1000):a<=1000000:=(aB 139033970417) h0
theorem mf:((0:Int):Int)<=(a:Nat):=aB 64158109999
theorem eT:((0:Int):Int)<=(0:Int):=dL 4010996015
theorem eV:((0:Int):Int)<(4611686018427387904:Int):=dL 2401300783
theorem tf{a b c:Nat}(h0:a<b)(h1:c<=a):c<b:=(ax 30961504789) h0 h1
theorem qd(h0:a<=7):a<=1000:=(aB 139302406641) h0
theorem yx(h0:a<=b):(a+1)<=(b+1):=(aq 2929201) h0
theorem vM:0<=1000:=dL 132862
theorem sy(h0:(a+1)<=(b+1))(h1:c<=a):c<=b:=(ax 9482056213) h0 h1
theorem yF(h0:a<=1000)(h1:b=a):a<=1000000:=(aq 569483142829587) h0 h1
theorem nT(h0:a<=5):(a+1)<=1000000:=(aB 139044457457) h0
theorem rh(h0:a<=7)(h1:b<a):b<7:=(aq 0x709f3209f1713) h0 h1
theorem uR:1<=(a+9):=aB 37932824
theorem xp(h0:((a:Nat):Int)<(b:Nat)):a<b:=(aq 0x73108f01f301f1) h0
theorem Z1(h0:a<=4)(h1:b<a):(b+1)<5:=(aq 0x70bfc202f1713) h0 h1
end
end
section
noncomputable def Ul:eb:={kind:= .function,names:=[],isGenerator:=false,isCoroutine:=false,more:=[]}
noncomputable def aK(i:Nat):Stmt:=(Gm.main.body[i]?).getD<|.Pass ⟨0,0,0,0⟩
noncomputable def bj(st:Stmt)(j:Nat):Stmt:=aaa (λZ=>Stmt) st (λZ Z Z b Z Z Z Z Z Z Z=>(b[j]?).getD<|.Pass ⟨0,0,0,0⟩) λZ=> .Pass ⟨0,0,0,0⟩
noncomputable def FE(st:Stmt):HT×List Stmt×eb:=aaf (λZ=>HT×List Stmt×eb) st (λZ a b Z Z Z g Z Z Z=>(a,b,g)) λZ=>(⟨[],[],none,[],[],none,[]⟩,[],Ul)
noncomputable def ya(st:Stmt):HT:=(FE st).1
noncomputable def lg(st:Stmt):List Str:=(ya st).args.map (·.arg)
noncomputable def AE(st:Stmt):List Stmt:=(FE st).2.1
noncomputable def jy(st:Stmt):eb:=(FE st).2.2
theorem rC{x:Option α}{f:α->Option g}{b:g}{P:Prop}(h:x.bind f=some b)(k:∀a,x=some a->f a=some b->P):P:=by
 cases x with
 |none=>calc bp h
 |some a=>calc k a rfl h
noncomputable def dctQ(d:Data):Option (Array en):=PySem.W.lookIn.match_3 (λZ=>Option<|Array en) d (λes Z=>some es) λZ=>none
noncomputable def Kz(d:Data):Option (Array Value):=aag (λZ=>Option<|Array Value) d some λZ=>none
noncomputable def Mm(d:Data):Option HX:=PySem.funcData.match_1 (λZ=>Option HX) d some λZ=>none
noncomputable def Ew(d:Value):Option Str:=PySem.setScan.match_1 (λZ=>Option Str) d (λq Z=>some q) λZ=>none
noncomputable def IZ(d:Value):Option Addr:=Z7 (λZ=>Option Addr) d some λZ=>none
theorem RW{d:Data}(h:Kz d=some vs):d= .fields vs:=by
 cases d with
 |fields v=>calc congrArg _<|gn h
 |_=>calc bp h
theorem IV{d:Data}(h:Mm d=some g):d= .func g:=by
 cases d with
 |func v=>calc congrArg _<|gn h
 |_=>calc bp h
theorem RK{d:Value}(h:Ew d=some q):∃t,d= .str q t:=by
 cases d with
 |str v t=>calc⟨t,congrArg (Value.str · t)<|gn h⟩
 |_=>calc bp h
theorem Rl{d:Value}(h:IZ d=some q):d= .ref q:=by
 cases d with
 |ref v=>calc congrArg _<|gn h
 |_=>calc bp h
noncomputable def gj(K:Frag)(a:Addr)(x:Str):Option Value:=(K.lookup a).bind λo=>(dctQ o.data).bind λes=>nsFind es x
noncomputable def qG(K:Frag)(a:Addr):Bool:=((K.lookup a).bind λo=>dctQ o.data).elim false λes=>es.all λe=>(Ew e.key).isSome
theorem At{K:Frag}{h:Heap}{a:Addr}(x:qG K a=true)(I:K.In h):h.Ns a (gj K a):=by
 unfold qG at x;cases e:K.lookup a with
 |none=>rw[e] at x;calc ek x
 |some o=>
  rw[e] at x
  have q:gj K a=h.nsMap a/\h.isNs a=true:=by
   unfold gj Heap.nsMap Heap.isNs;rw[(I _ _ e),e];obtain⟨c,g,d,l⟩:=o;cases d with
   |dict es _=>
    calc⟨rfl,Eq.trans (congrArg es.all<|funext λe=>?_) x⟩;cases e.key<;>rfl
   |_=>exact ek x
  calc q.1▸Heap.Ns.of_isNs q.2
noncomputable def LB(K:Frag)(v:Value):Option Str:=(IZ v).bind λc=>(K.lookup c).bind λo=>(Kz o.data).bind λvs=>(vs[1]?).bind Ew
theorem Vg{K:Frag}{h:Heap}{v:Value}(e:LB K v=some q)(I:K.In h):h.CodeRec v q:=rC e λc h1 e=>rC e λo g e=>rC e λvs j e=>rC e λu l e=>ai (RK e) λt m=>⟨c,o,vs,t,Rl h1,I _ _ g,RW j,l.trans<|congrArg some m⟩
structure mD where
 params:HT
 body:FuncBody
 scope:eb
 globals:Addr
 closure:List<|Str×Addr
 builtins:Addr
 defaults:Value
 code:Option Str
 qual:Str
 cls:Value
noncomputable def fnAt(K:Frag)(f:Addr):Option mD:=(K.lookup f).bind λo=>(Mm o.data).bind λg=>some ⟨g.params,g.body,g.scope,g.globals,g.closure,g.builtins,g.defaults,LB K g.code,g.qualname,o.cls⟩
noncomputable def xu(st:Stmt)(q:String):Option mD:=some ⟨ya st,.stmts<|AE st,jy st,uh,[],CL,.none,some<|ak q,ak q,.type "function"⟩
noncomputable def DI(st:Stmt):Bool:=(jy st).kind== .function&& !(jy st).isCoroutine&& !(jy st).isGenerator&&((lg st).all λx=>(jy st).names.lookup x==some .local||(jy st).names.lookup x==some .cell)&&decide ((ux 0 (jy st).names []).map (·.1)).Nodup&&((jy st).names.all λx=>x.2 != .free)
noncomputable def yc(n:Nat)(a b c d:Value):List Value:=[a,b,c,d].take n
noncomputable def Binds(st:Stmt):Prop:=(lg st).length<=4/\∀(g:HX) (a b c d:Value),bindArgs {g with params:=ya st,defaults:= .none} ⟨yc (lg st).length a b c d,[]⟩=pure ((lg st).zip<|yc (lg st).length a b c d)
theorem Xl(h:vs.length=n)(g:n<=4):∃a b c d,vs=yc n a b c d:=by
 subst h;cases vs with
 |nil=>calc oG .none .none .none .none rfl
 |cons a vs=>cases vs with
  |nil=>calc oG a .none .none .none rfl
  |cons b vs=>cases vs with
   |nil=>calc oG a b .none .none rfl
   |cons c vs=>cases vs with
    |nil=>calc oG a b c .none rfl
    |cons d vs=>cases vs with
     |nil=>calc oG a b c d rfl
     |cons e vs=>calc absurd (rU<|rU<|rU<|rU g)<|gm _
theorem XA{K:Frag}{f:Addr}{st:Stmt}{q:String}(h:fnAt K f=xu st q):typeIn K (.ref f)=some (.type "function")/\pA K (.ref f)=true:=by calc rC h λo e h=>rC h λj e2 h=>⟨(congrArg (HI Obj.cls) e).trans<|congrArg (HI mD.cls) h,?_⟩;unfold pA;dsimp only;rw[e];obtain⟨c,g,d,l⟩:=o;obtain rfl:=IV e2;rfl
noncomputable def kS:List (Addr×Stmt×String):=[(79,aK 6,"is_op"),(86,aK 7,"is_variable"),(91,aK 8,"parts"),(98,aK 9,"matched"),(103,aK 10,"key_of"),(117,bj (aK 11) 0,"Bank.__init__"),(124,bj (aK 11) 1,"Bank.size"),(129,bj (aK 11) 2,"Bank.take"),(136,bj (aK 11) 3,"Bank.require"),(162,bj (aK 11) 7,"Bank.op"),(169,bj (aK 11) 8,"Bank.kids"),(176,bj (aK 11) 9,"Bank.node"),(216,aK 14,"is_covered"),(221,aK 15,"named"),(235,bj (aK 16) 0,"HeapCommon.__init__"),(240,bj (aK 16) 1,"HeapCommon.common"),(247,bj (aK 16) 2,"HeapCommon.limited"),(254,bj (aK 16) 3,"HeapCommon.shared"),(259,bj (aK 16) 4,"HeapCommon.spread"),(280,bj (aK 18) 0,"Unions.__init__"),(287,bj (aK 18) 1,"Unions.make"),(294,bj (aK 18) 2,"Unions.size"),(301,bj (aK 18) 3,"Unions.find"),(308,bj (aK 18) 4,"Unions.merge"),(315,bj (aK 18) 5,"Unions.members"),(362,bj (aK 20) 0,"Heap.__init__"),(369,bj (aK 20) 1,"Heap.size"),(374,bj (aK 20) 2,"Heap.node"),(379,bj (aK 20) 3,"Heap.add"),(384,bj (aK 20) 4,"Heap.put"),(391,bj (aK 20) 5,"Heap.look_at"),(398,bj (aK 20) 6,"Heap.find"),(412,bj (aK 20) 8,"Heap.merge"),(419,bj (aK 20) 9,"Heap.join"),(426,bj (aK 20) 10,"Heap.settle"),(447,bj (aK 20) 13,"Heap.members"),(452,bj (aK 20) 14,"Heap.nodes_of"),(485,aK 22,"_law_figure"),(490,aK 23,"_law_heap"),(495,aK 24,"_law_trees"),(500,aK 25,"_law_spelled"),(505,aK 26,"_law_places"),(510,aK 27,"_law_is_instance"),(517,aK 28,"_law_rows"),(522,aK 29,"_law_rank"),(527,aK 30,"law")]
noncomputable def uV:List (Addr×String×Addr):=[(205,"__init__",117),(205,"size",124),(205,"take",129),(205,"require",136),(205,"op",162),(205,"kids",169),(205,"node",176),(262,"__init__",235),(262,"common",240),(262,"limited",247),(262,"shared",254),(262,"spread",259),(344,"__init__",280),(344,"make",287),(344,"size",294),(344,"find",301),(344,"merge",308),(344,"members",315),(474,"__init__",362),(474,"size",369),(474,"node",374),(474,"add",379),(474,"put",384),(474,"look_at",391),(474,"find",398),(474,"merge",412),(474,"join",419),(474,"settle",426),(474,"members",447),(474,"nodes_of",452)]
noncomputable def yq:List (Addr×String):=[(205,"nodes"),(205,"numbers"),(205,"weights"),(205,"depths"),(344,"above"),(344,"lots"),(344,"merged"),(474,"bank"),(474,"unions"),(474,"edges"),(474,"forest"),(474,"known"),(474,"above"),(474,"waiting"),(262,"heap"),(262,"known")]
noncomputable def yl:List Addr:=[205,262,344,474]
noncomputable def vm:List (String×Addr):=[("is_op",79),("is_variable",86),("parts",91),("matched",98),("key_of",103),("Bank",205),("is_covered",216),("named",221),("HeapCommon",262),("Unions",344),("Heap",474),("_law_figure",485),("_law_heap",490),("_law_trees",495),("_law_spelled",500),("_law_places",505),("_law_is_instance",510),("_law_rows",517),("_law_rank",522),("law",527)]
noncomputable def xd:List String:=["len","sorted","sum","max"]
noncomputable def xb:List String:=["tuple","set","range","zip","enumerate","list","dict"]
noncomputable def Bw(K:Frag)(C:Addr):=(og K (.ref C) "__getattribute__",og K (.ref C) "__getattr__",og K (.ref C) "__setattr__",plainOver K C,hasDictIn K C,makesIn K C,pA K<|.ref C)
noncomputable def FT(d:Option Value):Option Int:=Z5 (λZ=>Option Int) d (λi Z=>some i) λZ=>none
theorem WA{v:Option Value}(h:FT v=some i):∃t,v=some (.int i t):=by
 cases v with
 |none=>calc bp h
 |some v=>cases v with
  |int j t=>calc⟨t,congrArg (λj=>some<|HP j t)<|gn h⟩
  |_=>calc bp h
noncomputable def kh(K:Frag):=(kS.map λx=>fnAt K x.1,uV.map λx=>og K (.ref x.1)<|ak x.2.1,yq.map λx=>og K (.ref x.1)<|ak x.2,yl.map<|Bw K,vm.map λx=>gj K 3<|ak x.1,xd.map λx=>(gj K 3<|ak x,gj K 0<|ak x),xb.map λx=>(gj K 3<|ak x,gj K 0<|ak x),FT<|gj K 3<|ak "MOST_PATTERNS",qG K 3,qG K 0,qG K 2,gj K 2 "sys.recursionlimit",(K.lookup si).isSome)
noncomputable def kf:=(kS.map λx=>xu x.2.1 x.2.2,uV.map λx=>some<|some<|lY x.2.2,yq.map λZ=>some (none:Option Value),yl.map λZ=>(some<|some<|qx "object.__getattribute__",some (none:Option Value),some<|some<|qx "object.__setattr__",true,true,true,true),vm.map λx=>some<|lY x.2,xd.map λx=>((none:Option Value),some<|qx x),xb.map λx=>((none:Option Value),some<|kJ x),some (2000:Int),true,true,true,(none:Option Value),true)
theorem oI{α j:Type}{l:List α}{f g:α->j}(h:l.map f=l.map g)(i:Nat){x:α}(e:l[i]? =some x):f x=g x:=by simpa only[dm,e,wE,Option.some.injEq] using(congrArg (·[i]?) h)
theorem QV:(λ(g:HX) (a b c d:Value)=>kS.map λx=>bindArgs {g with params:=ya x.2.1,defaults:= .none} ⟨yc (lg x.2.1).length a b c d,[]⟩)=λg a b c d=>kS.map λx=>pure ((lg x.2.1).zip<|yc (lg x.2.1).length a b c d):=by kernel_rfl!
theorem Vq:(kS.all λx=>HU (lg x.2.1).length 4)=true:=by kernel_rfl!
theorem Va(i:Nat){x:Addr×Stmt×String}(e:kS[i]? =some x):Binds x.2.1:=⟨Om<|jb.mp Vq _<|fZ e,λg a b c d=>oI (congrFun (congrFun (congrFun (congrFun (congrFun QV g) a) b) c) d) i e⟩
theorem XX:(kS.all λx=>DI x.2.1)=true:=by kernel_rfl!
noncomputable abbrev fy:eN:=Gm
noncomputable def Ak:Env:={scope:=fy.main.scope,locals:=mainNs,globals:=mainNs,cells:=[],code:= .ref 13,frame:=some 14}
noncomputable def Bl:List Stmt:=behindTheImports fy
noncomputable def oy:Code:= .body Bl Ak
noncomputable def wd:List Frame:=[topFrame default]
noncomputable def treeOf:List Obj->Nat->BT->Option BT
 |[],_,t=>some t
 |o::l,n,t=>match ((t.ins n o).get n).isSome with
  |true=>treeOf l (n+1)<|t.ins n o
  |false=>none
theorem Wz{l:List Obj}:∀{n:Nat} {t j:BT},treeOf l n t=some j->(zl j (n+l.length) life).objs=(zl t n life).objs++l.toArray:=by
 induction l with
 |nil=>intro n t j h;cases h;simp
 |cons o l m=>
  intro n t j h;have h:(match ((t.ins n o).get n).isSome with|true=>treeOf l (n+1) (t.ins n o)|false=>none)=some j:=h;cases g:((t.ins n o).get n).isSome with
  |false=>rw[g] at h;calc bp h
  |true=>
   rw[g] at h;rw[show n+(o::l).length=n+1+l.length from(sg n l.length 1).symm.trans<|OE n l.length 1,m h,absHeap_ins g];simp[Heap.push]
noncomputable def Fd(s:aA):Option wU:=(treeOf s.heap.objs.toList 0 .nil).map λt=>⟨t,s.heap.objs.size,s.heap.life,s.gens,s.drawn,s.toks,s.os⟩
theorem Si(h:Fd s=some s'):s'.abs=s:=by
 obtain⟨t,e,rfl⟩:=jX.mp h;have:=Wz (life:=s.heap.life) e;obtain⟨⟨g,life⟩,gens,drawn,toks,os⟩:=s;have h0:(zl .nil 0 life).objs=#[]:=rfl;simp only[h0,np,cu] at this;show Shared.mk (zl t g.size life) gens drawn toks os=_
 have h1:zl t g.size life=⟨g,life⟩:=by
  show Heap.mk _ _=Heap.mk _ _;have:(zl t g.size life).objs=g:=by simpa using this
  exact congrArg (Heap.mk · life) this
 rw[h1]
noncomputable def DZ(w:bR)(os:pu):Option (aA×Thread):=topGo pn fy w 11 (some<|.ref 6) 12 ⟨lZ w.params,#[],CM,CR,os⟩<|topStub fy
noncomputable def AN(w:bR)(os:pu):Option (aA×Thread):=PySem.W.Fast.tw15667345088766844465 NQ fy w 11 (some<|.ref 6) 12 ⟨lZ w.params,#[],CM,CR,os⟩<|topStub fy
theorem Ic:DZ=AN:=by unfold DZ AN;rw[<-PySem.W.Fast.te15667345088766844465,<-NR]
noncomputable def Kh(w:bR)(os:pu):Option wU:=(DZ w os).bind λx=>Fd x.1
noncomputable def Mb(w:bR)(os:pu):Option (Flow×wU×Code×Pos):=(Kh w os).bind λs=>segRunT pn fy w 11 (some<|.ref 6) 1 4000 s<|piecesOf Bl Ak oy default wd
noncomputable def FO(w:bR)(os:pu):Option (Flow×wU×Code×Pos):=((AN w os).bind λx=>Fd x.1).bind λs=>PySem.W.Fast.tw10110043849684766642 NQ fy w 11 (some<|.ref 6) 1 4000 s ⟨(PySem.W.Fast.tw12563942051412417395 Bl Ak).wrap doneF deadEnd id id,oy,default,wd⟩
theorem ZV:Mb=FO:=by unfold Mb Kh FO piecesOf;rw[Ic,<-PySem.W.Fast.te10110043849684766642,<-NR,<-PySem.W.Fast.te12563942051412417395]
noncomputable def Bz(s:wU)(as:List Nat):Frag:=as.filterMap λa=>match Nat.blt a s.n with
 |true=>(match s.tree.get a with
  |some o=>(match alive o with|some o=>some (a,o)|none=>none)
  |none=>none)
 |false=>none
theorem QM(s:wU):∀as:List Nat,(Bz s as).In s.abs.heap:=by
 have go:∀(as:List Nat) (a:Nat) (o:Obj),(a,o)∈Bz s as->s.abs.heap.get? a=some o:=by
  intro as a o h;obtain⟨b,_,e⟩:=Oy.mp h;split at e
  .next h1=>
   split at e
   .next g j=>
    split at e
    .next DJ m=>
     cases e;exact(abs_get (Nat.blt_eq.mp h1) j).trans m
    .exact bp e
   .exact bp e
  .exact bp e
 intro as a o h
 exact go as a o (by
  have:∀(l:Frag),l.lookup a=some o->(a,o)∈l:=by
   intro l;induction l with
   |nil=>intro h;calc bp h
   |cons x l p=>
    obtain⟨b,g⟩:=x;intro h;rw[sb] at h;by_cases q:a=b
    .subst q;rw[beq_self_eq_true] at h;cases h;exact .head _
    .rw[beq_eq_false_iff_ne.mpr q] at h;exact .tail _<|p h
  calc this _ h)
noncomputable def EU:List Nat:=[474,344,205,262,473,343,204,261,3,0,1,2]++kS.flatMap λx=>[x.1,x.1 -1]
noncomputable def vw:eN:={fy with main:={fy.main with body:=[aK 30]}}
noncomputable def lsN:List Str:=(fy.main.scope.names.map (·.1)).filter (· !=ak "law")
noncomputable def xy:List Str:=importedModules fy.main.body
theorem Xy:(λ(w:bR) (os:pu)=>(AN w os).map (·.2))=λZ Z=>some ⟨PySem.W.Fast.tw11892475500146522536 NQ oy,oy,default,wd⟩:=by kernel_rfl!
noncomputable def Ku(w:bR)(s:wU):=((staticsOk xy (lZ w.params) s.abs.heap&&Qc fy s.abs.heap&&gensDone s.abs&&laidKept (lZ w.params) s.abs.heap),PySem.W.Fast.tw4187177175401517315 vw lsN xy (λZ=>true) true s.abs,kh<|Bz s EU)
theorem QO:(λ(w:bR) (os:pu)=>(FO w os).map λx=>(x.1,x.2.2,Ku w x.2.1))=λZ Z=>some (Flow.next,(oy,⟨351,0,370,118⟩),true,openGood vw lsN,kf):=by kernel_rfl!
theorem A5:(λw:bR=>((lZ w.params).isNs uh&&(#[]:Array GenState).size==0,(lZ w.params).objs.size,(lZ w.params).nsMap uh "__annotations__"))=λZ=>(true,11,some<|.ref 6):=by kernel_rfl!
theorem Vk:opening fy=plainProg fy.main.scope.names:=by kernel_rfl!
theorem QU(s:aA):fenceModules? fy s=some s:=rfl
theorem Rp(w:bR)(s:aA):segRun pn fy w 11 (some<|.ref 6) 1 1 s (blockOf Bl Ak oy default wd)=some (.next,s,oy,default):=rfl
theorem A8(w:bR)(s:aA)(c:Code)(p:Pos):topRun pn fy w 11 (some<|.ref 6) 3 s ⟨doneF .next,c,p,wd⟩=some s:=rfl
noncomputable abbrev Yh(s:aA):Prop:=∃K:Frag,K.In s.heap/\kh K=kf
theorem Yk(w:bR)(os:pu):∃s:aA,topRun pn fy w 11 (some<|.ref 6) (12+(1+(4000+3))) ⟨lZ w.params,#[],CM,CR,os⟩ (topStub fy)=some s/\(staticsOk xy (lZ w.params) s.heap&&Qc fy s.heap&&gensDone s&&laidKept (lZ w.params) s.heap)=true/\openSeen vw lsN xy (λZ=>true) true s=openGood vw lsN/\Yh s:=by
 obtain⟨⟨f,s',m,p⟩,e,q⟩:=jX.mp<|congrFun (congrFun QO w) os;obtain⟨e1,e2,e3,g,r⟩:f= .next/\(m,p)=(oy,⟨351,0,370,118⟩)/\_/\_/\_:=by simpa only[Ho,Ku] using q
 rw[<-PySem.W.Fast.te4187177175401517315] at g;rw[<-congrFun (congrFun ZV w) os] at e;subst e1;obtain⟨rfl,rfl⟩:=wP e2;obtain⟨sT,h1,z⟩:=H2.mp e;obtain⟨⟨C,D⟩,h,H⟩:=H2.mp h1;have j:=segRun_of z;rw[Si H] at j;have I:D=⟨denote pn oy,oy,default,wd⟩:=by have:=congrFun (congrFun Xy w) os;rw[<-Ic,h,<-PySem.W.Fast.te11892475500146522536,<-NR] at this;exact gn this
 subst I;calc⟨s'.abs,?_,e3,g,Bz s' EU,QM s' EU,r⟩;calc go_top h<|piece_block (Rp w C) ?_;have l:=piece_app (rest:=[]) j (N:=3)<|piece_nil<|A8 w s'.abs _ _;rw[ea] at l;calc l
theorem VN{α:Type}{p:eN}{w:bR}{N:Nat}{x s:aA}{f:aA->α}{y:α}(e:fencedOpening pn p w N=some x)(t:topFrom pn p w N x=some s)(h:f s=y):(openEnds pn p w N).map f=some y:=by unfold openEnds;rw[e];show(topFrom pn p w N x).map f=some y;rw[t];calc congrArg some h
theorem WD:LeftO fy vw lsN (λZ=>true) Yh (λZ=>True) 8000:=λw=>by
 obtain⟨⟨h,g,d,k,os⟩,e,j⟩:=jX.mp<|boot_open (p:=fy) (N:=8000) Vk (by decide) QU w;obtain⟨rfl,rfl,rfl,rfl⟩:h=lZ w.params/\g=#[]/\d=CM/\k=CR:=by simpa using j
 obtain⟨z1,z2,l⟩:_/\_/\_:=by simpa only[Ho] using congrFun A5 w
 obtain⟨s,h1,m,q,z⟩:=Yk w os;have r:=topRun_mono (8000 -4016) _ _ _ _ h1;have t:topFrom pn fy w 8000 ⟨lZ w.params,#[],CM,CR,os⟩=some s:=by unfold topFrom;dsimp only;rw[z1,z2,l,r];show(match staticsOk xy (lZ w.params) s.heap&&Qc fy s.heap&&gensDone s&&laidKept (lZ w.params) s.heap with|true=>_|false=>_)=_;rw[m]
 exact VN e t<|Prod.ext q (eq_true z)
set_option maxRecDepth 100000 in
theorem ZZ:(Gl:OpenLaw).wellSaid=true:=by
 iterate 38 refine look_both ?_ ?_
 iterate 2 kernel_rfl!
 decide+kernel;kernel_rfl!
 iterate 2 decide+kernel
 all_goals kernel_rfl!
end
section
set_option genCtorIdx true
set_option genInjectivity true
inductive Dt where
 |none
 |bool (b:Bool)
 |int (n:Int)
 |str (x:Str)
 |tup (l:List Dt)
 |lst (l:List Dt)
 |aM (ks vs:List Dt)
noncomputable instance:DecidableEq Dt:=E9 Dt
mutual
noncomputable def Dt.depth:Dt->Nat
 | .tup l=>Dt.dG l+1
 | .lst l=>Dt.dG l+1
 | .aM ks vs=>max (Dt.dG ks) (Dt.dG vs)+1
 |_=>0
noncomputable def Dt.dG:List Dt->Nat
 |[]=>0
 |d::ds=>max d.depth<|Dt.dG ds
end
theorem Dt.zP(h:d∈l):d.depth<=Dt.dG l:=by
 induction l with
 |nil=>calc cX h
 |cons x xs g=>
  rcases dD.mp h with rfl|h
  .exact Hn ..
  .exact aL (g h)<|Hb ..
theorem Dt.My(h:∀d∈l,d.depth<=n):Dt.dG l<=n:=by
 induction l with
 |nil=>calc cO _
 |cons x xs g=>
  exact qA.mpr ⟨h x<|.head _,g λd hd=>h d<|.tail _<|by assumption⟩
mutual
noncomputable def Dt.key:Dt->Bool
 | .int _=>true
 | .str x=>gp x
 | .tup l=>Dt.keys l
 |_=>false
noncomputable def Dt.keys:List Dt->Bool
 |[]=>true
 |d::ds=>d.key&&Dt.keys ds
end
mutual
noncomputable def Dt.flat:Dt->Bool
 | .tup l=>Dt.fA l
 | .lst l=>Dt.fA l
 | .aM _ _=>false
 | .str x=>gp x
 |_=>true
noncomputable def Dt.fA:List Dt->Bool
 |[]=>true
 |d::ds=>d.flat&&Dt.fA ds
end
theorem Dt.Y6:Dt.fA l=true↔∀d∈l,d.flat=true:=by
 induction l with
 |nil=>calc⟨λZ=>dF,λZ=>rfl⟩
 |cons x xs g=>calc iu.trans<|(and_congr_right λZ=>g).trans (mZ (p:=λd:Dt=>d.flat=true)).symm
theorem Dt.zL:Dt.keys l=true↔∀d∈l,d.key=true:=by
 induction l with
 |nil=>calc⟨λZ=>dF,λZ=>rfl⟩
 |cons x xs g=>exact iu.trans<|(and_congr_right λZ=>g).trans (mZ (p:=λd:Dt=>d.key=true)).symm
mutual
noncomputable def ig(w:bR):Dt->Int
 | .str x=>hashStr w x
 | .int n=>kK n
 | .tup l=>Qa<|Gn<|mB w l
 |_=>0
noncomputable def mB(w:bR):List Dt->List Int
 |[]=>[]
 |d::ds=>ig w d::mB w ds
end
mutual
noncomputable def fu:Dt->Nat
 | .tup l=>xf l+1
 |_=>1
noncomputable def xf:List Dt->Nat
 |[]=>0
 |d::ds=>fu d+xf ds
end
theorem xO(w:bR)(l:List Dt):mB w l=l.map (ig w):=by
 induction l with
 |nil=>rfl
 |cons x xs g=>calc congrArg (_::·) g
noncomputable abbrev Look:=Addr->Option Obj
inductive pF (g:Look) (T:String) (P:List Value->Prop) (v:Value):Prop
 |mk (a:Addr) (o:Obj) (items:Array Value) (e:Nat) (h1:v= .ref a) (h2:g a=some o) (h3:o.cls= .type T) (h4:o.data= .seq items e) (h5:P items.toList)
inductive Nq (g:Look) (ks:List Dt) (Pk Pv:List Value->Prop) (hs:List Int) (v:Value):Prop
 |mk (a:Addr) (o:Obj) (es:Array en) (e:Nat) (h1:v= .ref a) (h0:a≠si) (h2:g a=some o) (h3:o.ExactDict) (h4:o.data= .dict es e) (h5:Pk (es.toList.map (·.key))) (h6:Pv (es.toList.map (·.val)))
  (h7:es.toList.map (·.hash)=hs) (h8:ks.Nodup) (h9:Dt.keys ks=true) (h10:Dt.dG ks<=6)
inductive tx (P:Value->Prop) (Ps:List Value->Prop) (vs:List Value):Prop
 |mk (v:Value) (vs':List Value) (e:vs=v::vs') (h:P v) (hs:Ps vs')
mutual
noncomputable def be(w:bR)(g:Look):Dt->Value->Prop
 | .none,v=>v= .none
 | .bool b,v=>v= .bool b
 | .str x,v=>∃t,v= .str x t
 | .int n,v=>∃t,v= .int n t
 | .tup l,v=>pF g "tuple" (aT w g l) v
 | .lst l,v=>pF g "list" (aT w g l) v
 | .aM ks vs,v=>Nq g ks (aT w g ks) (aT w g vs) (mB w ks) v
noncomputable def aT(w:bR)(g:Look):List Dt->List Value->Prop
 |[],vs=>vs=[]
 |d::ds,vs=>tx (be w g d) (aT w g ds) vs
end
variable{w:bR}
theorem Dt.ind{P:Dt->Prop}{Ps:List Dt->Prop}(h0:P .none)(h1:∀b,P<|.bool b)(g:∀n,P<|.int n)(h:∀x,P<|.str x)(j:∀l,Ps l->P (.tup l))(m:∀l,Ps l->P (.lst l))(p:∀ks vs,Ps ks->Ps vs->P (.aM ks vs))(q:Ps [])(r:∀d ds,P d->Ps ds->Ps (d::ds)):(∀x,P x)/\∀l,Ps l:=⟨λx=>Dt.rec (motive_1:=P) (motive_2:=Ps) h0 h1 g h j m p q r x,λx=>Dt.rec_1 (motive_1:=P) (motive_2:=Ps) h0 h1 g h j m p q r x⟩
theorem iS{x:Dt}{xs:List Dt}(h:Dt.keys (x::xs)=true):x.key=true/\Dt.keys xs=true:=iu.mp h
theorem cv{P:Prop}(h:false=true):P:=nomatch h
theorem Dt.kind{P:Dt->Prop}{Ps:List Dt->Prop}(g:∀n,P<|.int n)(h:∀x,P<|.str x)(j:∀l,Dt.keys l=true->Ps l->P (.tup l))(m:Ps [])(p:∀d ds,d.key=true->Dt.keys ds=true->P d->Ps ds->Ps (d::ds)):(∀x:Dt,x.key=true->P x)/\∀l,Dt.keys l=true->Ps l:=Dt.ind (λk=>cv k) (λZ k=>cv k) (λn Z=>g n) (λx Z=>h x) (λl q k=>j l k<|q k) (λZ Z k=>cv k) (λZ Z Z Z k=>cv k) (λZ=>m) λd ds i is k=>p d ds (iS k).1 (iS k).2 (i (iS k).1)<|is (iS k).2
theorem Nb{y:Dt}(k:y.key=true)(h:be w g y<|.str x t):y= .str x:=by
 cases y with
 |str=>obtain⟨_,e⟩:=h;cases e;rfl
 |int=>obtain⟨_,e⟩:=h;cases e
 |tup=>cases h with|mk a o it n e=>cases e
 |_=>calc cv k
theorem Yq{y:Dt}(k:y.key=true)(h:be w g y<|.int x t):y= .int x:=by
 cases y with
 |int=>obtain⟨_,e⟩:=h;cases e;rfl
 |str=>obtain⟨_,e⟩:=h;cases e
 |tup=>cases h with|mk a o it n e=>cases e
 |_=>calc cv k
theorem YU{y:Dt}{a:Addr}{o:Obj}{it:Array Value}(k:y.key=true)(h:be w g y<|.ref a)(p:g a=some o)(hd:o.data= .seq it e):∃l,y= .tup l/\aT w g l it.toList:=by
 cases y with
 |int=>obtain⟨_,e⟩:=h;cases e
 |str=>obtain⟨_,e⟩:=h;cases e
 |tup l=>cases h with|mk z C q n e j _ m r=>
  cases e;rw[p] at j;cases j;rw[hd] at m;cases m;calc⟨l,rfl,r⟩
 |_=>calc cv k
theorem Bn:(∀(x y:Dt) (v:Value),x.key=true->y.key=true->be w g x v->be w g y v->x=y)/\∀(x y:List Dt) (v:List Value),Dt.keys x=true->Dt.keys y=true->aT w g x v->aT w g y v->x=y:=by
 refine Dt.ind (P:=λx=>∀(y:Dt) (v:Value),x.key=true->y.key=true->be w g x v->be w g y v->x=y) (Ps:=λx=>∀(y:List Dt) (v:List Value),Dt.keys x=true->Dt.keys y=true->aT w g x v->aT w g y v->x=y) (λZ Z k=>cv k) (λZ Z Z k=>cv k) ?_ ?_ ?_ (λZ Z Z Z k=>cv k) (λZ Z Z Z Z Z k=>cv k) ?_ ?_
 .rintro n y v -k ⟨t,rfl⟩ h;exact(Yq k h).symm
 .rintro n y v -k ⟨t,rfl⟩ h;exact(Nb k h).symm
 .rintro l q y v p j ⟨a,o,it,n,rfl,H,_,hd,I⟩ h;calc ai (YU j h H hd) λJ m=>aw m λr z=>?_;clear m;clear h;subst r;rw[q J _ p j I z]
 .rintro y v - -rfl h
  cases y with
  |nil=>rfl
  |cons=>cases h with|mk _ _ e=>exact nE e
 .rintro d ds q C y v p j ⟨_,_,rfl,h,hs⟩ h'
  cases y with
  |nil=>calc rq h'
  |cons y ys=>cases h' with|mk _ _ e h' D=>
   cases e;rw[q y _ (iS p).1 (iS j).1 h h',C ys _ (iS p).2 (iS j).2 hs D]
theorem be.Bn(j:x.key=true)(l:y.key=true)(h:be w g x v)(h':be w g y v):x=y:=(Internal.Bn (w:=w) (g:=g)).1 x y v j l h h'
theorem pF.imp(h:pF g T P v)(k:∀a o items e,g a=some o->o.data= .seq items e->j a=some o)(i:∀l,P l->m l):pF j T m v:=h.rec λa o it n e p hc hd q=>⟨a,o,it,n,e,k _ _ _ _ p hd,hc,hd,i _ q⟩
theorem tx.imp(h:tx P Ps v)(i:∀l,P l->j l)(is:∀l,Ps l->g l):tx j g v:=h.rec λv vs e h hs=>⟨v,vs,e,i _ h,is _ hs⟩
theorem Kr(k:∀a o,g a=some o->l a=some o):(∀(x:Dt) (v:Value),be w g x v->be w l x v)/\∀(x:List Dt) (v:List Value),aT w g x v->aT w l x v:=Dt.ind (P:=λx=>∀(v:Value),be w g x v->be w l x v) (Ps:=λx=>∀(v:List Value),aT w g x v->aT w l x v) (λZ h=>h) (λZ Z h=>h) (λZ Z h=>h) (λZ Z h=>h) (λZ j Z h=>pF.imp h (λZ Z Z Z e Z=>k _ _ e) j) (λZ j Z h=>pF.imp h (λZ Z Z Z e Z=>k _ _ e) j) (λZ Z j m Z h=>Nq.rec (λa o it n e hs q hc hd h1 r z C D H=>⟨a,o,it,n,e,hs,k _ _ q,hc,hd,j _ h1,m _ r,z,C,D,H⟩) h) (λZ h=>h) λZ Z j p Z h=>tx.imp h j p
theorem be.mono(k:∀a o,g a=some o->j a=some o)(h:be w g x v):be w j x v:=(Kr k).1 x v h
theorem aT.mono(k:∀a o,g a=some o->j a=some o)(h:aT w g x v):aT w j x v:=(Kr k).2 x v h
theorem vL{g:Look}{T:String}{P:List Value->Prop}{v:Value}{C:Prop}(h:pF g T P v)(k:∀a o items n,v= .ref a->g a=some o->o.cls= .type T->o.data= .seq items n->P items.toList->C):C:=h.rec k
theorem mr{P:Value->Prop}{Ps:List Value->Prop}{vs:List Value}{C:Prop}(h:tx P Ps vs)(k:∀u us,vs=u::us->P u->Ps us->C):C:=h.rec k
theorem aT.pick{g:Look}{ds:List Dt}:∀{vs:List Value},aT w g ds vs->∀v∈vs,∃d∈ds,be w g d v:=by
 induction ds with
 |nil=>
  intro vs h v j;rw[show vs=[] from h] at j;calc cX j
 |cons d ds l=>
  intro vs h v j;calc mr h λu us e r m=>?_;rw[e] at j;calc(dD.mp j).elim (λe=>⟨d,dC,e▸r⟩) λj=>ai (l m v j) λp q=>⟨p,dw _ q.1,q.2⟩
theorem aT.length:∀{x:List Dt} {v:List Value},aT w g x v->v.length=x.length:=by
 intro j;induction j with
 |nil=>
  intro _ h;rw[show _=[] from h];rfl
 |cons _ _ m=>
  intro _ l;obtain⟨v,vs,e,_,hs⟩:=l;rw[e,bP,bP,m hs]
theorem aT.get:∀{x:List Dt} {v:List Value} {i:Nat} {d:Dt},aT w g x v->x[i]? =some d->∃u,v[i]? =some u/\be w g d u:=by
 intro l;induction l with
 |nil=>
  intro _ _ _ _ h;simp at h
 |cons _ _ r=>
  intro _;intro m;cases m with
  |zero=>
   intro _ p hi;obtain⟨v,vs,e,h,_⟩:=p;calc⟨v,by rw[e];rfl,by simp at hi;calc hi▸h⟩
  |succ i=>
   intro _ q hi;obtain⟨v,vs,e,_,hs⟩:=q;calc ai (r (i:=i) hs<|by simpa using hi) λu j=>?_;calc⟨u,by rw[e];simpa using j.1,j.2⟩
theorem aT.append:∀{x y:List Dt} {u v:List Value},aT w g x u->aT w g y v->aT w g (x++y) (u++v):=by
 intro j;induction j with
 |nil=>
  intro _ _ _ h k;rw[show _=[] from h];calc k
 |cons _ _ m=>
  intro _ _ _ l k;obtain⟨v,vs,e,h,hs⟩:=l;calc⟨v,vs++_,by rw[e];rfl,h,m hs k⟩
theorem aT.drop:∀(n:Nat) {x:List Dt} {u:List Value},aT w g x u->aT w g (x.drop n) (u.drop n):=by
 intro j;induction j with
 |zero=>
  intro _ _ h;calc h
 |succ n p=>
  intro l;cases l with
  |nil=>
   intro _ h;rw[show _=[] from h];calc rfl
  |cons _ _=>
   intro _ m;obtain⟨v,vs,e,h,hs⟩:=m;rw[e];calc p hs
theorem aT.take:∀(n:Nat) {x:List Dt} {u:List Value},aT w g x u->aT w g (x.take n) (u.take n):=by
 intro j;induction j with
 |zero=>
  intro _ _ h;calc rfl
 |succ n p=>
  intro l;cases l with
  |nil=>
   intro _ h;rw[show _=[] from h];calc rfl
  |cons _ _=>
   intro _ m;obtain⟨v,vs,e,h,hs⟩:=m;rw[e];exact⟨v,vs.take n,rfl,h,p hs⟩
mutual
noncomputable def Dt.py:Dt->PyData
 | .none=> .none
 | .bool b=> .bool b
 | .int n=> .int n
 | .str x=> .str x
 | .tup l=> .tuple<|Dt.kq l
 | .lst l=> .list<|Dt.kq l
 | .aM _ _=> .none
noncomputable def Dt.kq:List Dt->List PyData
 |[]=>[]
 |d::ds=>d.py::Dt.kq ds
end
theorem oR{x:Dt}{xs:List Dt}(h:Dt.fA (x::xs)=true):x.flat=true/\Dt.fA xs=true:=iu.mp h
theorem VJ{h:Heap}:(∀(x:Dt) (v:Value),x.flat=true->be w h.get? x v->∃as,Reads h v x.py as)/\∀(x:List Dt) (v:List Value),Dt.fA x=true->aT w h.get? x v->∃as,ReadsAll h v (Dt.kq x) as:=by
 refine Dt.ind (P:=λx=>∀(v:Value),x.flat=true->be w h.get? x v->∃as,Reads h v x.py as) (Ps:=λx=>∀(v:List Value),Dt.fA x=true->aT w h.get? x v->∃as,ReadsAll h v (Dt.kq x) as) ?_ ?_ ?_ ?_ ?_ ?_ (λZ Z Z Z Z k=>cv k) ?_ ?_
 .rintro v -rfl;exact⟨_,.none⟩
 .rintro b v -rfl;exact⟨_,.bool b⟩
 .rintro n v -⟨t,rfl⟩;exact⟨_,.int _ t⟩
 .rintro n v -⟨t,rfl⟩;exact⟨_,.str _ t⟩
 .rintro l g v hf ⟨a,o,it,n,rfl,j,hc,hd,m⟩;calc ai (g _ hf m) λas r=>?_;exact⟨_,.tuple j hc hd r⟩
 .rintro l g v hf ⟨a,o,it,n,rfl,j,hc,hd,m⟩;calc ai (g _ hf m) λas r=>?_;exact⟨_,.list j hc hd r⟩
 .rintro v -rfl;exact⟨_,.nil⟩
 .rintro d ds g p v hf ⟨v,vs,rfl,h,hs⟩;calc ai (g _ (oR hf).1 h) λas r=>ai (p _ (oR hf).2 hs) λz q=>⟨_,.cons r q⟩
theorem be.reads(hf:x.flat=true)(r:be w h.get? x v):∃as,Reads h v x.py as:=VJ.1 x v hf r
theorem Kl:(∀x:Dt,x.flat=true->x.py.canLay0=true)/\∀x:List Dt,Dt.fA x=true->Ox (Dt.kq x)=true:=Dt.ind (P:=λx=>x.flat=true->x.py.canLay0=true) (Ps:=λx=>Dt.fA x=true->Ox (Dt.kq x)=true) (λZ=>rfl) (λZ Z=>rfl) (λZ Z=>rfl) (λZ h=>h) (λZ g=>g) (λZ g=>g) (λZ Z Z Z k=>cv k) (λZ=>rfl) λZ Z g j h=>iu.mpr ⟨g (oR h).1,j (oR h).2⟩
theorem Dt.we{x:Dt}(h:x.flat=true):x.py.canLay0=true:=Kl.1 x h
theorem Dt.V7(h:Dt.fA x=true):Ox (Dt.kq x)=true:=Kl.2 x h
theorem yC:(∀x:Dt,x.key=true->x.flat=true)/\∀x:List Dt,Dt.keys x=true->Dt.fA x=true:=Dt.ind (P:=λx=>x.key=true->x.flat=true) (Ps:=λx=>Dt.keys x=true->Dt.fA x=true) (λk=>cv k) (λZ k=>cv k) (λZ Z=>rfl) (λZ h=>h) (λZ g=>g) (λZ Z k=>cv k) (λZ Z Z Z k=>cv k) (λZ=>rfl) λZ Z g j h=>iu.mpr ⟨g (iS h).1,j (iS h).2⟩
theorem Dt.rD{x:Dt}(h:x.key=true):x.flat=true:=yC.1 x h
theorem Dt.W4(h:Dt.keys x=true):Dt.fA x=true:=yC.2 x h
theorem Bj:(∀x:Dt,x.flat=true->x.py.depth=x.depth)/\∀x:List Dt,Dt.fA x=true->ON (Dt.kq x)=Dt.dG x:=Dt.ind (P:=λx=>x.flat=true->x.py.depth=x.depth) (Ps:=λx=>Dt.fA x=true->ON (Dt.kq x)=Dt.dG x) (λZ=>rfl) (λZ Z=>rfl) (λZ Z=>rfl) (λZ Z=>rfl) (λZ g h=>congrArg (·+1)<|g h) (λZ g h=>congrArg (·+1)<|g h) (λZ Z Z Z k=>cv k) (λZ=>rfl) λZ Z g j h=>congr (congrArg max<|g (oR h).1) (j (oR h).2)
theorem Dt.vo(x:Dt)(h:x.flat=true):x.py.depth=x.depth:=Bj.1 x h
theorem Dt.V8(x:List Dt)(h:Dt.fA x=true):ON (Dt.kq x)=Dt.dG x:=Bj.2 x h
mutual
noncomputable def Dt.noBool:Dt->Bool
 | .bool _=>false
 | .tup l=>Dt.kB l
 | .lst l=>Dt.kB l
 |_=>true
noncomputable def Dt.kB:List Dt->Bool
 |[]=>true
 |d::ds=>d.noBool&&Dt.kB ds
end
theorem Str.W3(x y:Str):(x==y)=decide (x=y):=by
 by_cases h:x=y
 .subst h;simp
 .rw[decide_eq_false h];calc beq_eq_false_iff_ne.mpr h
theorem zG{x:Dt}{xs:List Dt}(h:Dt.kB (x::xs)=true):x.noBool=true/\Dt.kB xs=true:=iu.mp h
theorem xX{x y:Dt}{P:Prop}(h:x=y)(e:CV x.ctorIdx y.ctorIdx=false):P:=absurd (congrArg Dt.ctorIdx h)<|Oi e
theorem TS:(∀x:Dt,∀y:Dt,x.flat=true->y.flat=true->x.noBool=true->y.noBool=true->(HH x.py y.py=true↔x=y))/\∀x:List Dt,∀y:List Dt,Dt.fA x=true->Dt.fA y=true->Dt.kB x=true->Dt.kB y=true->(S0 (Dt.kq x) (Dt.kq y)=true↔x=y):=by
 refine Dt.ind (P:=λx=>∀y:Dt,x.flat=true->y.flat=true->x.noBool=true->y.noBool=true->(HH x.py y.py=true↔x=y)) (Ps:=λx=>∀y:List Dt,Dt.fA x=true->Dt.fA y=true->Dt.kB x=true->Dt.kB y=true->(S0 (Dt.kq x) (Dt.kq y)=true↔x=y)) ?_ (λZ Z Z Z k=>cv k) ?_ ?_ ?_ ?_ (λZ Z Z Z Z k=>cv k) ?_ ?_
 .intro y _ hf _ hb;cases y<;>first|exact cv hf|exact cv hb|exact⟨λZ=>rfl,λZ=>rfl⟩|exact⟨λh=>cv h,λh=>xX h rfl⟩
 .intro n y _ hf _ hb;cases y<;>first|exact cv hf|exact cv hb|exact⟨λh=>congrArg _<|of_decide_eq_true h,λh=>decide_eq_true<|Dt.int.inj h⟩|exact⟨λh=>cv h,λh=>xX h rfl⟩
 .intro n y _ hf _ hb;cases y<;>first|exact cv hf|exact cv hb|exact⟨λh=>congrArg _<|eq_of_beq h,λh=>by rw[Dt.str.inj h];calc BEq.rfl (α:=Str)⟩|exact⟨λh=>cv h,λh=>xX h rfl⟩
 .intro l p y h1 g m j;cases y<;>first|exact cv g|exact cv j|exact⟨λh=>congrArg _<|(p _ h1 g m j).mp h,λh=>(p _ h1 g m j).mpr<|Dt.tup.inj h⟩|exact⟨λh=>cv h,λh=>xX h rfl⟩
 .intro l p y h1 g m j;cases y<;>first|exact cv g|exact cv j|exact⟨λh=>congrArg _<|(p _ h1 g m j).mp h,λh=>(p _ h1 g m j).mpr<|Dt.lst.inj h⟩|exact⟨λh=>cv h,λh=>xX h rfl⟩
 .intro y _ _ _ _;cases y<;>first|exact⟨λZ=>rfl,λZ=>rfl⟩|exact⟨λh=>cv h,nE⟩
 .intro d ds p q y h1 g m j
  cases y with
  |nil=>calc⟨λh=>cv h,rq⟩
  |cons y ys=>
   have e1:=p y (oR h1).1 (oR g).1 (zG m).1 (zG j).1;have e2:=q ys (oR h1).2 (oR g).2 (zG m).2 (zG j).2;calc⟨λh=>congr (congrArg _<|e1.mp (iu.mp h).1) (e2.mp (iu.mp h).2),λh=>iu.mpr ⟨e1.mpr (dN h).1,e2.mpr (dN h).2⟩⟩
theorem Dt.eqv(x y:Dt)(h1:x.flat=true)(g:y.flat=true)(h:x.noBool=true)(j:y.noBool=true):HH x.py y.py=true↔x=y:=TS.1 x y h1 g h j
theorem Dt.Gf{x y:Dt}(h1:x.flat=true)(g:y.flat=true)(h:x.noBool=true)(j:y.noBool=true):HH x.py y.py=decide (x=y):=by rw[T0,Dt.eqv x y h1 g h j,decide_eq_true_iff]
theorem Ru:(∀x:Dt,x.key=true->x.noBool=true)/\∀x:List Dt,Dt.keys x=true->Dt.kB x=true:=Dt.ind (P:=λx=>x.key=true->x.noBool=true) (Ps:=λx=>Dt.keys x=true->Dt.kB x=true) (λk=>cv k) (λZ k=>cv k) (λZ Z=>rfl) (λZ Z=>rfl) (λZ g=>g) (λZ Z k=>cv k) (λZ Z Z Z k=>cv k) (λZ=>rfl) λZ Z g j h=>iu.mpr ⟨g (iS h).1,j (iS h).2⟩
theorem Dt.Nk{x:Dt}(h:x.key=true):x.noBool=true:=Ru.1 x h
section
variable{prog:eN}{A:cj}{E:Value->aA->Prop}{s:aA}
theorem th{x y:Dt}{Q:Bool->aA->Prop}(g:x.key=true)(hy:y.key=true)(j:A.units+min x.depth y.depth<dP)(l:be w s.heap.get? x u)(m:be w s.heap.get? y v)(h:Q (decide<|x=y) s):ao (aO prog w) A (eqBool u v) Q E s:=by
 refine ai (be.reads (Dt.rD g) l) λas p=>ai (be.reads (Dt.rD hy) m) λq r=>SeqAt.eqBoolOverData prog w A E s u v _ _ as q Q p r (Dt.we<|Dt.rD g) (Dt.we<|Dt.rD hy) ?_ ?_
 .rw[Dt.vo _ (Dt.rD g),Dt.vo _ (Dt.rD hy)];exact j
 .rw[Dt.Gf (Dt.rD g) (Dt.rD hy) (Dt.Nk g) (Dt.Nk hy)];calc h
end
end
section
variable{prog:eN}{w:bR}
theorem zB{M:oh}{A:cj}{E:Value->aA->Prop}{s:aA}{α g:Type}{xs:Array α}{b:g}{f:α->g->Sem (ForInStep g)}{Q:g->aA->Prop}(h:ao M A (forIn xs.toList b f) Q E s):ao M A (forIn xs b f) Q E s:=by rw[<-GO];calc h
noncomputable def HD(prog:eN)(w:bR)(x:Dt):Prop:=∀{A:cj} {E:Value->aA->Prop} {s:aA} {v:Value} {Q:Int->aA->Prop},A.units+x.depth<dP->be w s.heap.get? x v->Q (ig w x) {s with toks:=s.toks+fu x}->ao (aO prog w) A (pyHash v) Q E s
noncomputable def AM(prog:eN)(w:bR)(l:List Dt):Prop:=∀{b:Array Int} {f:Value->Array Int->Sem (ForInStep<|Array Int)},(∀k r,f k r=(do let h <-pyHash k;pure<|GS<|r.push h))->∀{A:cj} {E:Value->aA->Prop} {s:aA} {vs:List Value} {Q:Array Int->aA->Prop},A.units+Dt.dG l<dP->aT w s.heap.get? l vs->(∀g,g.toList=b.toList++mB w l->Q g {s with toks:=s.toks+xf l})->ao (aO prog w) A (forIn vs b f) Q E s
theorem TA{l:List Dt}(q:AM prog w l):HD prog w (.tup l):=by
 intro A E s v Q m r h;calc vL r λa o items n e p hc hd hi=>?_;clear r;subst e;have g:s.TypeIs (.ref a) "tuple":=⟨o,p,hc⟩;calc af<|wpAny_cRoomFor_or (.inr<|(ax 494310523889) m)<|af<|pb g GU.lookup ?_;show ao _ _ (if(some (qx "tuple.__hash__")==some ga)=true then _ else _) Q E s;calc cw rfl<|af<|pb g GU.lookup ?_;show ao _ _ (callSpecialIfBoundUnlessNone? (.ref a) "__hash__" _>>=_) Q E s;calc af<|wpAny_callSpecialIfBoundUnlessNone?_slot g GU<|eL GU g F.entry_tuple_hash ?_<|F.args_tuple_hash_1 _;show ao _ _ (E3 (.ref a)>>=_) _ _ s;calc af<|wpAny_tupleItemsOf p hd<|af<|zB<|q (λZ Z=>rfl) (show A.units+1+Dt.dG l<dP from(ax 503647261889) m) hi λb hb=>?_;show ao _ _ (retInt<|Gn b.toList) _ _ _;have hb:b.toList=mB w l:=hb;rw[hb];calc wpAny_ret_mkInt ?_;have h:Q (Qa<|Gn<|mB w l) {s with toks:=s.toks+xf l+1}:=h;generalize Gn (mB w l)=z at h|-;show ao _ _ (if(decide (-(2:Int)^63<=z)&&decide (z<2^63))=true then _ else _) Q E _;unfold Qa at h;by_cases j:(decide (-(2:Int)^63<=z)&&decide (z<2^63))=true
 .refine fM (decide_eq_true j) ?_;rw[if_pos j] at h;exact ap h
 .refine cw (decide_eq_false j) ?_;rw[if_neg j] at h;calc af<|fq<|ap h
theorem UI(m:HD prog w x)(p:AM prog w xs):AM prog w (x::xs):=by intro b f hf A E s vs Q j r q;calc mr r λv z e h hs=>?_;clear r;subst e;rw[qs,hf];calc af<|af<|m ((aV 0x7543175419fa31) j) h<|ap<|p hf ((dB [A.units,Dt.dG xs,dP,x.depth] 0x7543175419f3a1) j) hs λl g=>?_;have:=q l (by rw[g,kH,eK];rfl);show Q l {s with toks:=s.toks+fu x+xf xs};rw[(sg ..)];calc this
theorem SQ:(∀x:Dt,x.key=true->HD prog w x)/\∀l,Dt.keys l=true->AM prog w l:=Dt.kind (λn=>λZ q h=>ai q λZ e=>e▸wpAny_pyHash_int h) (λx=>λZ q h=>ai q λZ e=>e▸wpAny_pyHash_str h) (λZ Z=>TA) (by intro b f hf A E s vs Q _ h g;rw[show vs=[] from h];calc ap<|g b (ea _).symm) λZ Z Z Z=>UI
theorem xl(x:Dt)(k:x.key=true)(g:A.units+x.depth<dP)(r:be w s.heap.get? x v)(h:Q (ig w x) {s with toks:=s.toks+fu x}):ao (aO prog w) A (pyHash v) Q E s:=SQ.1 x k g r h
noncomputable def QD(prog:eN)(w:bR)(x:Dt):Prop:=∀⦃n:Nat⦄ ⦃A:cj⦄ ⦃E:Value->aA->Prop⦄ ⦃s:aA⦄ ⦃v:Value⦄ ⦃Q:Bool->aA->Prop⦄,x.depth<=n->be w s.heap.get? x v->Q true s->ao (aO prog w) A (eqIsQuiet n v) Q E s
theorem UX{l:List Dt}(p:∀d∈l,QD prog w d):QD prog w (.tup l):=by
 intro n A E s v Q g r h;cases n with
 |zero=>calc absurd g<|gm _
 |succ n=>
  calc vL r λa o items ep e j hc hd hi=>?_;clear r;subst e;have m:s.TypeIs (.ref a) "tuple":=⟨o,j,hc⟩;unfold eqIsQuiet;calc af<|pb m F.slot_tuple_eq.lookup ?_;show ao _ _ (isInstance (.ref a) (.type "tuple")>>=_) _ _ s;calc af<|sc m P8<|af<|lx j hd<|af<|zB ?_;refine Cg _ (λrest r s'=>r=(none,())/\s'=s/\∃ds,aT w s.heap.get? ds rest/\∀d∈ds,d∈l) _ ?_ ?_ _ _<|aR rfl rfl ⟨l,hi,λZ h=>h⟩
  .intro v rest r s' q;refine aN q λz C q=>ai q λds q=>?_
   rw[z,C];cases ds with
   |nil=>calc rq q.1
   |cons d ds=>
    calc mr q.1 λu us e h1 D=>?_;have hm:=q.2 d dC;rw[((dN e).1)];calc af<|p d hm ((λd hd=>aL (Dt.zP hd)<|rU g) d hm) h1<|ap<|aR rfl rfl ⟨ds,?_,λH hd=>q.2 H<|dw _ hd⟩;rw[(dN e).2];exact D
  .intro r s' q;rw[q.1,q.2.1];calc ap h
theorem Tw:(∀x:Dt,x.key=true->QD prog w x)/\∀l,Dt.keys l=true->∀d∈l,QD prog w d:=Dt.kind (λn=>λk Z Z Z Z Z Z q h=>ai q λZ e=>by rw[e,eqIsQuiet_byValue k rfl];calc ap h) (λn=>λk Z Z Z Z Z Z q h=>ai q λZ e=>by rw[e,eqIsQuiet_byValue k rfl];calc ap h) (λZ Z=>UX) (λZ h=>cX h) λZ Z Z Z h hs d hd=>(dD.mp hd).elim (λe=>e▸h)<|hs d
theorem AO(n:Nat)(x:Dt)(k:x.key=true)(d:x.depth<=n)(r:be w s.heap.get? x v)(q:Q true s):ao (aO prog w) A (eqIsQuiet n v) Q E s:=Tw.1 x k d r q
end
section
inductive PV where
 |d (x:Dt)
 |ref (a:Addr)
 |ex (v:Value)
 |tp (l:List PV)
inductive MO where
 |lst (l:List PV)
 |aM (l:List<|Dt×PV)
 |inst (C dx:Addr)
 |ns (n:Nat) (ρ:Str->Option PV)
 |cell (x:Option PV)
noncomputable abbrev al:=Addr->Option MO
noncomputable def upd(O:al)(a:Addr)(m:MO):al:=λb=>if b=a then some m else O b
theorem yh{O:al}{a:Addr}{p q:MO}:upd (upd O a p) a q=upd O a q:=funext λb=>by unfold upd;split<;>rfl
theorem Ge{O:al}{a:Addr}{p:MO}(h:O a=some p):upd O a p=O:=funext λb=>by
 unfold upd;split
 .rename_i e;exact(e▸h).symm
 .rfl
noncomputable def del(O:al)(a:Addr):al:=λb=>if b=a then none else O b
noncomputable def Look.set(B:Look)(a:Addr)(o:Obj):Look:=λb=>if b=a then some o else B b
noncomputable abbrev Look.le(B B':Look):Prop:=∀a o,B a=some o->B' a=some o
mutual
noncomputable def RV(w:bR)(B:Look):PV->Value->Prop
 | .d x,v=>be w B x v
 | .ref a,v=>v= .ref a
 | .ex u,v=>v=u
 | .tp l,v=>pF B "tuple" (bC w B l) v
noncomputable def bC(w:bR)(B:Look):List PV->List Value->Prop
 |[],vs=>vs=[]
 |p::g,vs=>tx (RV w B p) (bC w B g) vs
end
noncomputable def fR(w:bR)(B:Look):Option PV->Option Value->Prop
 |some p,some v=>RV w B p v
 |none,none=>True
 |_,_=>False
inductive SO (w:bR) (B:Look) (l:List<|Dt×PV) (o:Obj):Prop
 |mk (es:Array en) (e:Nat) (h1:o={cls:= .type "dict",data:= .dict es e}) (h2:aT w B (l.map (·.1)) (es.toList.map (·.key))) (h3:bC w B (l.map (·.2)) (es.toList.map (·.val)))
  (h4:es.toList.map (·.hash)=mB w (l.map (·.1))) (h5:(l.map (·.1)).Nodup) (h6:Dt.keys (l.map (·.1))=true) (h7:Dt.dG (l.map (·.1))<=6)
inductive UD (w:bR) (B:Look) (n:Nat) (ρ:Str->Option PV) (o:Obj):Prop
 |mk (es:Array en) (e:Nat) (h1:o.data= .dict es e) (h2:zm es) (h3:es.size<=n) (h4:∀x,fR w B (ρ x)<|nsFind es x)
noncomputable def RM(w:bR)(B:Look):MO->Obj->Prop
 | .lst l,o=>∃items e,o={cls:= .type "list",data:= .seq items e}/\bC w B l items.toList
 | .aM l,o=>SO w B l o
 | .inst C dx,o=>o=instObj C dx
 | .ns n ρ,o=>UD w B n ρ o
 | .cell x,o=>∃v,o={cls:= .type "cell",data:= .cell v}/\fR w B x v
variable{w:bR}{B B':Look}
mutual
theorem RV.mono(k:B.le B'):∀{p:PV} {v:Value},RV w B p v->RV w B' p v
 | .d _,_,h=>be.mono k h
 | .ref _,_,h=>h
 | .ex _,_,h=>h
 | .tp _,_,⟨a,o,it,n,e,g,hc,hd,j⟩=>⟨a,o,it,n,e,k _ _ g,hc,hd,bC.mono k j⟩
theorem bC.mono(k:B.le B'):∀{p:List PV} {v:List Value},bC w B p v->bC w B' p v
 |[],_,h=>h
 |_::_,_,⟨v,vs,e,h,hs⟩=>⟨v,vs,e,RV.mono k h,bC.mono k hs⟩
end
theorem bC.length:∀{p:List PV} {v:List Value},bC w B p v->v.length=p.length:=by
 intro g;induction g with
 |nil=>
  intro _ h;rw[show _=[] from h];rfl
 |cons _ _ l=>
  intro _ j;obtain⟨v,vs,e,_,hs⟩:=j;rw[e,bP,bP,l hs]
theorem bC.get:∀{p:List PV} {v:List Value} {i:Nat} {d:PV},bC w B p v->p[i]? =some d->∃u,v[i]? =some u/\RV w B d u:=by
 intro j;induction j with
 |nil=>
  intro _ _ _ _ h;simp at h
 |cons _ _ r=>
  intro _;intro l;cases l with
  |zero=>
   intro _ m hi;obtain⟨v,vs,e,h,_⟩:=m;calc⟨v,by rw[e];rfl,by simp at hi;calc hi▸h⟩
  |succ i=>
   intro _ q hi;obtain⟨v,vs,e,_,hs⟩:=q;calc ai (r (i:=i) hs<|by simpa using hi) λu g=>?_;calc⟨u,by rw[e];simpa using g.1,g.2⟩
theorem bC.append:∀{x y:List PV} {u v:List Value},bC w B x u->bC w B y v->bC w B (x++y) (u++v):=by
 intro g;induction g with
 |nil=>
  intro _ _ _ h k;rw[show _=[] from h];calc k
 |cons _ _ l=>
  intro _ _ _ j k;obtain⟨v,vs,e,h,hs⟩:=j;calc⟨v,vs++_,by rw[e];rfl,h,l hs k⟩
theorem bC.AD:∀{l:List Dt} {vs:List Value},aT w B l vs->bC w B (l.map .d) vs:=by
 intro g;induction g with
 |nil=>
  intro _ h;calc h
 |cons _ _ m=>
  intro _ j;obtain⟨v,vs,e,h,hs⟩:=j;calc⟨v,vs,e,h,m hs⟩
theorem bC.uN:∀{l:List Dt} {vs:List Value},bC w B (l.map .d) vs->aT w B l vs:=by
 intro g;induction g with
 |nil=>
  intro _ h;calc h
 |cons _ _ m=>
  intro _ j;obtain⟨v,vs,e,h,hs⟩:=j;calc⟨v,vs,e,h,m hs⟩
theorem fR.mono(k:B.le B'):∀{p:Option PV} {v:Option Value},fR w B p v->fR w B' p v:=by
 intro g;cases g with
 |some _=>
  intro j;cases j with
  |some _=>
   calc λh=>RV.mono k h
  |none=>
   calc λh=>h.elim
 |none=>
  intro l;cases l with
  |none=>
   calc λh=>h
  |some _=>
   calc λh=>h.elim
theorem RM.mono(k:B.le B'):∀{m:MO} {o:Obj},RM w B m o->RM w B' m o:=by
 intro g;cases g with
 |lst _=>
  intro _ j;obtain⟨i,e,h,hs⟩:=j;calc⟨i,e,h,bC.mono k hs⟩
 |aM _=>
  intro _ l;obtain⟨es,e,h,h1,p,q,C,D,H⟩:=l;calc⟨es,e,h,aT.mono k h1,bC.mono k p,q,C,D,H⟩
 |inst _ _=>
  intro _ h;calc h
 |ns _ _=>
  intro _ r;obtain⟨es,e,h,h1,q,p⟩:=r;calc⟨es,e,h,h1,q,λx=>(p x).mono k⟩
 |cell _=>
  intro _ z;obtain⟨v,h,h1⟩:=z;calc⟨v,h,h1.mono k⟩
structure Cx where
 prog:eN
 w:bR
 K:Frag
 os:pu
 mg:Str->Option Value
 mb:Str->Option Value
 lim:∀h,K.In h->h.NoLimit
 sm:∃o,K.lookup si=some o
 hg:∀h,K.In h->h.Ns uh mg
 hb:∀h,K.In h->h.Ns CL mb
structure Sat(c:Cx)(B:Look)(O:al)(R:Look)(s:aA):Prop where
 kb:∀a o,c.K.lookup a=some o->B a=some o
 fb:∀a o,B a=some o->s.heap.get? a=some o
 fr:∀a o,R a=some o->s.heap.get? a=some o
 fm:∀a m,O a=some m->∃o,s.heap.get? a=some o/\RM c.w B m o
 br:∀a o,B a=some o->R a=none
 bm:∀a o,B a=some o->O a=none
 rm:∀a o,R a=some o->O a=none
 gens:s.gens=#[]
 os:s.os=c.os
section
variable{c:Cx}{O:al}{R:Look}{s:aA}
theorem Sat.gy(S:Sat c B O R s):c.K.In s.heap:=λa o e=>S.fb a o<|S.kb a o e
theorem Sat.lim(S:Sat c B O R s):s.heap.NoLimit:=c.lim _ S.gy
theorem Sat.VC(S:Sat c B O R s)(hh:s'.heap=s.heap)(hg:s'.gens=s.gens)(g:s'.os=s.os):Sat c B O R s' where
 kb:=S.kb
 fb:=λa o e=>by rw[hh];exact S.fb a o e
 fr:=λa o e=>by rw[hh];exact S.fr a o e
 fm:=λa m e=>by rw[hh];exact S.fm a m e
 br:=S.br
 bm:=S.bm
 rm:=S.rm
 gens:=by rw[hg];exact S.gens
 os:=by rw[g];calc S.os
theorem Sat.toks(S:Sat c B O R s)(t:Nat):Sat c B O R {s with toks:=t}:=S.VC rfl rfl rfl
theorem Sat.qK(S:Sat c B O R s)(h:s.heap.get? a=none):B a=none:=by
 cases e:B a with
 |none=>rfl
 |some o=>rw[S.fb a o e] at h;calc cU h
theorem Sat.pG(S:Sat c B O R s)(h:s.heap.get? a=none):R a=none:=by
 cases e:R a with
 |none=>rfl
 |some o=>rw[S.fr a o e] at h;calc cU h
theorem Sat.qf(S:Sat c B O R s)(h:s.heap.get? a=none):O a=none:=by
 cases e:O a with
 |none=>rfl
 |some o=>calc ai (S.fm a o e) λl g=>aw g λj Z=>?_;rw[j] at h;calc cU h
theorem Sat.tu(S:Sat c B O R s)(h:O a=some m):B a=none:=by
 cases e:B a with
 |none=>rfl
 |some o=>rw[S.bm a o e] at h;calc bp h
theorem Sat.xV(S:Sat c B O R s)(h:O a=some m):R a=none:=by
 cases e:R a with
 |none=>rfl
 |some o=>rw[S.rm a o e] at h;calc bp h
theorem gA(h:Heap)(g:h.objs.size<=a):h.get? a=none:=by
 cases e:h.get? a with
 |none=>rfl
 |some o=>calc absurd (fN e)<|lX.mpr g
theorem Sat.keep(S:Sat c B O R s)(hg:s'.gens=s.gens)(g:s'.os=s.os)(k:∀a o,s.heap.get? a=some o->(B a=some o\/R a=some o\/(∃m,O a=some m))->s'.heap.get? a=some o):Sat c B O R s' where
 kb:=S.kb
 fb:=λa o e=>k a o (S.fb a o e)<|.inl e
 fr:=λa o e=>k a o (S.fr a o e)<|.inr<|.inl e
 fm:=λa m e=>ai (S.fm a m e) λo q=>⟨o,k a o q.1<|.inr<|.inr ⟨m,e⟩,q.2⟩
 br:=S.br
 bm:=S.bm
 rm:=S.rm
 gens:=by rw[hg];exact S.gens
 os:=by rw[g];calc S.os
theorem Sat.grow(S:Sat c B O R s)(hg:s'.gens=s.gens)(g:s'.os=s.os)(k:∀a o,s.heap.get? a=some o->s'.heap.get? a=some o):Sat c B O R s':=S.keep hg g λa o e Z=>k a o e
theorem Sat.push(S:Sat c B O R s)(o:Obj):Sat c B O R {s with heap:=s.heap.push o}:=S.grow rfl rfl λZ Z e=>bW o e
theorem fW(h:B a=none):B.le (B.set a o):=λb g e=>by
 unfold Look.set;split
 .subst_vars;rw[h] at e;exact bp e
 .exact e
theorem Sat.rG(S:Sat c B O R s)(hb:B a=none)(h:R a=none)(j:s.heap.get? a=some o):Sat c (B.set a o) (del O a) R s where
 kb:=λb g e=>fW hb b g<|S.kb b g e
 fb:=λb g e=>by
  unfold Look.set at e;split at e
  .cases e;subst_vars;exact j
  .exact S.fb b g e
 fr:=S.fr
 fm:=λb m e=>by
  unfold del at e;split at e
  .exact bp e
  .exact ai (S.fm b m e) λo q=>⟨o,q.1,q.2.mono<|fW hb⟩
 br:=λb g e=>by
  unfold Look.set at e;split at e
  .subst_vars;exact h
  .exact S.br b g e
 bm:=λb g e=>by
  unfold Look.set at e;unfold del;split at e
  .subst_vars;simp
  .split
   .rfl
   .exact S.bm b g e
 rm:=λb g e=>by
  unfold del;split
  .rfl
  .exact S.rm b g e
 gens:=S.gens
 os:=S.os
theorem rM(h:O a=none):del O a=O:=by
 funext b;unfold del;split
 .subst_vars;exact h.symm
 .rfl
theorem Sat.own(S:Sat c B O R s)(hb:B a=none)(h:R a=none)(j:s.heap.get? a=some o)(hm:RM c.w B m o):Sat c B (upd O a m) R s where
 kb:=S.kb
 fb:=S.fb
 fr:=S.fr
 fm:=λb m' e=>by
  unfold upd at e;split at e
  .cases e;subst_vars;exact⟨o,j,hm⟩
  .exact S.fm b m' e
 br:=S.br
 bm:=λb g e=>by
  unfold upd;split
  .subst_vars;rw[hb] at e;exact bp e
  .exact S.bm b g e
 rm:=λb g e=>by
  unfold upd;split
  .subst_vars;rw[h] at e;exact bp e
  .exact S.rm b g e
 gens:=S.gens
 os:=S.os
theorem Sat.drop(S:Sat c B O R s)(a:Addr):Sat c B (del O a) R s where
 kb:=S.kb
 fb:=S.fb
 fr:=S.fr
 fm:=λb m' e=>by
  unfold del at e;split at e
  .exact bp e
  .exact S.fm b m' e
 br:=S.br
 bm:=λb g e=>by unfold del;split;rfl;exact S.bm b g e
 rm:=λb g e=>by unfold del;split;rfl;exact S.rm b g e
 gens:=S.gens
 os:=S.os
theorem Sat.rest(S:Sat c B O R s)(hb:B a=none)(h:s.heap.get? a=some o):Sat c B (del O a) (R.set a o) s where
 kb:=S.kb
 fb:=S.fb
 fr:=λb g e=>by
  unfold Look.set at e;split at e
  .cases e;subst_vars;exact h
  .exact S.fr b g e
 fm:=λb m' e=>by
  unfold del at e;split at e
  .exact bp e
  .exact S.fm b m' e
 br:=λb g e=>by
  unfold Look.set;split
  .subst_vars;rw[hb] at e;exact bp e
  .exact S.br b g e
 bm:=λb g e=>by unfold del;split;rfl;exact S.bm b g e
 rm:=λb g e=>by
  unfold del;unfold Look.set at e;split at e
  .subst_vars;simp
  .split
   .rfl
   .exact S.rm b g e
 gens:=S.gens
 os:=S.os
theorem Sat.Y8(S:Sat c B O (R.set a o) s)(h:R a=none):Sat c B O R s where
 kb:=S.kb
 fb:=S.fb
 fr:=λb g e=>S.fr b g<|fW h b g e
 fm:=S.fm
 br:=λb g e=>by
  have:=S.br b g e;unfold Look.set at this;split at this
  .exact cU this
  .exact this
 bm:=S.bm
 rm:=λb g e=>S.rm b g<|fW h b g e
 gens:=S.gens
 os:=S.os
theorem Sat.turn(S:Sat c B O R s)(h₀:O a=some g)(hs:lU a s.heap h')(h:h'.get? a=some o)(hm:RM c.w B m o):Sat c B (upd O a m) R {s with heap:=h'}:=by
 have j:Sat c B (del O a) R {s with heap:=h'}:=(S.drop a).keep rfl rfl λb l e hb=>by
  calc hs.extBut b l (λx=>?_) e;clear h hs;subst x;rcases hb with hb|hb|⟨m',hb⟩
  .rw[S.tu h₀] at hb;exact bp hb
  .rw[S.xV h₀] at hb;exact bp hb
  .unfold del at hb;simp at hb
 have:=j.own (a:=a) (S.tu h₀) (S.xV h₀) h hm
 have e:upd (del O a) a m=upd O a m:=by
  funext b;unfold upd del;split
  .rfl
  .rfl
 rwa [e] at this
end
end
section
variable{c:Cx}
noncomputable def EF:Value->aA->Prop:=λZ Z=>False
structure cP(k:Nat)(A:cj):Prop where
 handled:A.handled=none
 depth:A.depth+k<=690
 units:A.units+8*k+60<=dP
theorem cP.le{k g:Nat}{A:cj}(r:cP k A)(h:g<=k):cP g A:=⟨r.1,by have:=r.2;calc(ax 0x227f431253227f451) h this,by have:=r.3;calc(aV 0x25423f422f312a325423f422fa1) h this⟩
theorem cP.u{k:Nat}{A:cj}(r:cP k A):A.units+50<dP:=by have:=r.3;calc(ax 0x73410f123423f422f51) this
theorem cP.d{k:Nat}{A:cj}(r:cP k A):A.depth<recursionLimit:=by have:=r.2;calc(aq 0x706f1227f431) this
noncomputable abbrev az:=Str->Option PV
noncomputable def aZ(ρ:az)(x:Str)(p:PV):az:=λy=>if y=x then some p else ρ y
structure Loc(c:Cx)(V:Env)(ρ:az)(B R:Look):Prop where
 fn:V.scope.kind= .function
 gl:V.globals=uh
 bl:V.builtins=CL
 ns:∃o es e,R V.locals=some o/\o.data= .dict es e/\zm es/\∀x,V.kindOf x=some .local->fR c.w B (ρ x) (nsFind es x)
 cell:∀x a,(V.kindOf x=some .cell\/V.kindOf x=some .free)->V.cells.lookup x=some a->∃o v,R a=some o/\o.data= .cell v/\fR c.w B (ρ x) v
 has:∀x,(V.kindOf x=some .cell\/V.kindOf x=some .free)->∃a,V.cells.lookup x=some a
 apart:∀x y a,V.cells.lookup x=some a->V.cells.lookup y=some a->x=y
noncomputable def eD(V:Env)(a:Addr):Prop:=a=V.locals\/∃x,(V.kindOf x=some .cell\/V.kindOf x=some .free)/\V.cells.lookup x=some a
theorem Loc.gen{c:Cx}{V:Env}{ρ g:az}{B B' R l:Look}(L:Loc c V ρ B R)(k:∀a o,eD V a->R a=some o->l a=some o)(v:∀x o,fR c.w B (ρ x) o->fR c.w B' (g x) o):Loc c V g B' l:=⟨L.fn,L.gl,L.bl,gz L.ns λo es e q=>bV q λh1 j p r=>jQ o es e<|cx (k _ _ (.inl rfl) h1) j p λx h=>v x _<|r x h,λx a h m=>aE (L.cell x a h m) λo w q=>aN q λh0 h1 j=>bv o w<|aR (k _ _ (.inr ⟨x,h,m⟩) h0) h1<|v x _ j,L.has,L.apart⟩
theorem Loc.on{c:Cx}{V:Env}{ρ:az}{B R g:Look}(L:Loc c V ρ B R)(k:∀a o,eD V a->R a=some o->g a=some o):Loc c V ρ B g:=L.gen k λZ Z r=>r
theorem Loc.mono{c:Cx}{V:Env}{ρ:az}{B B' R:Look}(L:Loc c V ρ B R)(h:B.le B'):Loc c V ρ B' R:=L.gen (λZ Z Z e=>e) λZ Z r=>r.mono h
mutual
noncomputable def iW(e:Expr):List Str:=Z2 (λZ=>List Str) e (λes Z Z=>FL es) λe=>Z6 (λZ=>List Str) e (λx Z=>[x]) λZ=>[]
noncomputable def FL:List Expr->List Str
 |[]=>[]
 |e::es=>iW e++FL es
end
noncomputable def Tg(V:Env)(t:Expr)(a:Addr):Prop:=a=V.locals\/∃x∈iW t,(V.kindOf x=some .cell\/V.kindOf x=some .free)/\V.cells.lookup x=some a
theorem Tg.pI{V:Env}{t:Expr}{a:Addr}(h:Tg V t a):eD V a:=h.imp _root_.id λz=>z.imp λx y=>y.2
inductive gc (c:Cx) (Q:PV->al->Prop) (B R:Look) (v:Value) (s:aA):Prop
 |mk (B':Look) (ah:al) (pv:PV) (l:B.le B') (S:Sat c B' ah R s) (r:RV c.w B' pv v) (q:Q pv ah)
inductive zJ (c:Cx) (Q:List PV->al->Prop) (B R:Look) (v:List Value) (s:aA):Prop
 |mk (B':Look) (ah:al) (pv:List PV) (l:B.le B') (S:Sat c B' ah R s) (r:bC c.w B' pv v) (q:Q pv ah)
inductive uE (c:Cx) (Q:Bool->al->Prop) (B R:Look) (v:Bool) (s:aA):Prop
 |mk (B':Look) (ah:al) (l:B.le B') (S:Sat c B' ah R s) (q:Q v ah)
inductive Sb (c:Cx) (Q:al->Prop) (B R:Look) (s:aA):Prop
 |mk (B':Look) (ah:al) (l:B.le B') (S:Sat c B' ah R s) (q:Q ah)
inductive Fl where
 |next
 |ret (v:PV)
noncomputable def Uc(w:bR)(B:Look):Fl->Flow->Prop
 | .next,f=>f= .next
 | .ret p,f=>∃v,f= .ret v/\RV w B p v
inductive nG (c:Cx) (V:Env) (Q:Fl->al->az->Prop) (B R:Look) (f:Flow) (s:aA):Prop
 |mk (B':Look) (ah:al) (R':Look) (ρ':az) (fl:Fl) (l:B.le B') (k:∀a,¬eD V a->R' a=R a) (S:Sat c B' ah R' s) (L:Loc c V ρ' B' R') (r:Uc c.w B' fl f) (q:Q fl ah ρ')
inductive SK (c:Cx) (V:Env) (t:Expr) (Q:al->az->Prop) (B R:Look) (s:aA):Prop
 |mk (B':Look) (ah:al) (R':Look) (ρ':az) (l:B.le B') (k:∀a,¬Tg V t a->R' a=R a) (S:Sat c B' ah R' s) (L:Loc c V ρ' B' R') (q:Q ah ρ')
structure WE(c:Cx)(k:Nat)(V:Env)(ρ:az)(e:Expr)(O:al)(Q:PV->al->Prop):Prop where
 go:∀A B R s,cP k A->Sat c B O R s->Loc c V ρ B R->ao (aO c.prog c.w) A (eval e V) (gc c Q B R) EF s
structure jz(c:Cx)(k:Nat)(V:Env)(ρ:az)(es:List Expr)(O:al)(Q:List PV->al->Prop):Prop where
 go:∀A B R s pos,cP k A->Sat c B O R s->Loc c V ρ B R->ao (aO c.prog c.w) A (uB<|backTo pos<|starEach es V) (zJ c Q B R) EF s
structure WT(c:Cx)(k:Nat)(V:Env)(ρ:az)(e:Expr)(O:al)(Q:Bool->al->Prop):Prop where
 go:∀A B R s,cP k A->Sat c B O R s->Loc c V ρ B R->ao (aO c.prog c.w) A (su e V<|eval e V) (uE c Q B R) EF s
structure xR(c:Cx)(k:Nat)(V:Env)(ρ:az)(op:BoolOp)(es:List Expr)(O:al)(Q:Bool->al->Prop):Prop where
 go:∀A B R s,cP k A->Sat c B O R s->Loc c V ρ B R->ao (aO c.prog c.w) A (allTrue op es V) (uE c Q B R) EF s
structure WS(c:Cx)(k:Nat)(V:Env)(ρ:az)(st:Stmt)(O:al)(Q:Fl->al->az->Prop):Prop where
 go:∀A B R s,cP k A->Sat c B O R s->Loc c V ρ B R->ao (aO c.prog c.w) A (exec st V) (nG c V Q B R) EF s
structure WB(c:Cx)(k:Nat)(V:Env)(ρ:az)(sts:List Stmt)(O:al)(Q:Fl->al->az->Prop):Prop where
 go:∀A B R s,cP k A->Sat c B O R s->Loc c V ρ B R->ao (aO c.prog c.w) A (execs sts V) (nG c V Q B R) EF s
structure aW(c:Cx)(k:Nat)(f:Value)(args:List PV)(O:al)(Q:PV->al->Prop):Prop where
 go:∀A B R s vs,cP k A->Sat c B O R s->bC c.w B args vs->ao (aO c.prog c.w) A (call f vs) (gc c Q B R) EF s
structure gF(c:Cx)(k:Nat)(f:Value->Value->Sem Value)(a b:PV)(O:al)(Q:PV->al->Prop):Prop where
 go:∀A B R s va vb,cP k A->Sat c B O R s->RV c.w B a va->RV c.w B b vb->ao (aO c.prog c.w) A (f va vb) (gc c Q B R) EF s
structure cW(c:Cx)(k:Nat)(V:Env)(ρ:az)(t:Expr)(a:PV)(O:al)(Q:al->az->Prop):Prop where
 go:∀A B R s v,cP k A->Sat c B O R s->Loc c V ρ B R->RV c.w B a v->ao (aO c.prog c.w) A (sv t V v) (λ_ s'=>SK c V t Q B R s') EF s
noncomputable def small(n:Nat):Prop:=n<=1000000
@[reducible] noncomputable def Ta (p:PV) (Q:List PV->al->Prop):List PV->al->Prop:=λg O=>Q (p::g) O
@[reducible] noncomputable def YT (c:Cx) (k:Nat) (V:Env) (ρ:az) (es:List Expr) (Q:List PV->al->Prop):PV->al->Prop:=λp O=>jz c k V ρ es O<|Ta p Q
inductive YC (Q:PV->al->Prop) (ps:List PV) (O:al):Prop
 |mk (s:small ps.length) (h:(∃ds,ps=ds.map .d/\Q (.d<|.tup ds) O)\/Q (.tp ps) O)
inductive RR (Q:PV->al->Prop) (ps:List PV) (O:al):Prop
 |mk (s:small ps.length) (ds:List Dt) (e:ps=ds.map .d) (q:Q (.d<|.lst ds) O)
inductive XQ (Q:PV->al->Prop) (ps:List PV) (O:al):Prop
 |mk (s:small ps.length) (q:∀a,O a=none->Q (.ref a) (upd O a<|.lst ps))
section
variable{k:Nat}{V:Env}{O:al}{ρ:az}
theorem Look.le_refl(B:Look):B.le B:=λZ Z e=>e
theorem Look.le_trans{B B' g:Look}(h:B.le B')(h':B'.le g):B.le g:=λa o e=>h' a o<|h a o e
theorem gc.up{Q:PV->al->Prop}{B B' R:Look}{v:Value}{s:aA}(h:B.le B')(p:gc c Q B' R v s):gc c Q B R v s:=p.rec λj g x l S r q=>⟨j,g,x,Look.le_trans h l,S,r,q⟩
theorem zJ.up{Q:List PV->al->Prop}{B B' R:Look}{v:List Value}{s:aA}(h:B.le B')(p:zJ c Q B' R v s):zJ c Q B R v s:=p.rec λj g x l S r q=>⟨j,g,x,Look.le_trans h l,S,r,q⟩
theorem uE.up{Q:Bool->al->Prop}{B B' R:Look}{v:Bool}{s:aA}(h:B.le B')(p:uE c Q B' R v s):uE c Q B R v s:=p.rec λj g l S q=>⟨j,g,Look.le_trans h l,S,q⟩
theorem nG.up{Q:Fl->al->az->Prop}{B B' R m:Look}{v:Flow}{s:aA}(h:B.le B')(C:∀a,¬eD V a->m a=R a)(p:nG c V Q B' m v s):nG c V Q B R v s:=p.rec λD g H j x l k S L r q=>⟨D,g,H,j,x,Look.le_trans h l,λa z=>(k a z).trans<|C a z,S,L,r,q⟩
theorem gc.here{Q:PV->al->Prop}{B R:Look}{v:Value}{s:aA}{g:PV}(S:Sat c B O R s)(r:RV c.w B g v)(q:Q g O):gc c Q B R v s:=⟨B,O,g,Look.le_refl B,S,r,q⟩
theorem WE.mono{e:Expr}{Q g:PV->al->Prop}(h:WE c k V ρ e O Q)(i:∀p O,Q p O->g p O):WE c k V ρ e O g:= .mk λA B R s r S L=>aS (h.1 A B R s r S L) (λZ Z p=>p.rec λB' ah x l S r q=>⟨B',ah,x,l,S,r,i _ _ q⟩) λZ Z x=>x
theorem WB.mono{e:List Stmt}{Q j:Fl->al->az->Prop}(h:WB c k V ρ e O Q)(i:∀p O ρ,Q p O ρ->j p O ρ):WB c k V ρ e O j:= .mk λA B R s r S L=>aS (h.1 A B R s r S L) (λZ Z p=>p.rec λB' ah m g x l k S L r q=>⟨B',ah,m,g,x,l,k,S,L,r,i _ _ _ q⟩) λZ Z x=>x
theorem aW.mono{f:Value}{args:List PV}{Q g:PV->al->Prop}(h:aW c k f args O Q)(i:∀p O,Q p O->g p O):aW c k f args O g:= .mk λA B R s vs r S j=>aS (h.1 A B R s vs r S j) (λZ Z p=>p.rec λB' ah x l S r q=>⟨B',ah,x,l,S,r,i _ _ q⟩) λZ Z x=>x
theorem WT.mono{e:Expr}{Q g:Bool->al->Prop}(h:WT c k V ρ e O Q)(i:∀p O,Q p O->g p O):WT c k V ρ e O g:= .mk λA B R s r S L=>aS (h.1 A B R s r S L) (λZ Z p=>p.rec λB' ah l S q=>⟨B',ah,l,S,i _ _ q⟩) λZ Z x=>x
theorem xF{i:Int}{h:Nat}{g:Pos}{Q:PV->al->Prop}(q:Q (.d<|.int i) O):WE c k V ρ (.Constant (.int i) h g) O Q:= .mk λA B R s r S L=>wpAny_Constant_int ⟨B,O,.d<|.int i,Look.le_refl B,S.toks _,⟨_,rfl⟩,q⟩
theorem JZ{x:Str}{h:Nat}{g:Pos}{Q:PV->al->Prop}(q:Q (.d<|.str x) O):WE c k V ρ (.Constant (.str x) h g) O Q:= .mk λA B R s r S L=>by show ao _ _ (mkText x) _ _ s;calc wpAny_mkText ⟨B,O,.d<|.str x,Look.le_refl B,S.toks _,⟨_,rfl⟩,q⟩
theorem xB{b:Bool}{h:Nat}{g:Pos}{Q:PV->al->Prop}(q:Q (.d<|.bool b) O):WE c k V ρ (.Constant (.bool b) h g) O Q:= .mk λA B R s r S L=>ap ⟨B,O,.d<|.bool b,Look.le_refl B,S,rfl,q⟩
theorem Y7{h:Nat}{g:Pos}{Q:PV->al->Prop}(q:Q (.d .none) O):WE c k V ρ (.Constant .none h g) O Q:= .mk λA B R s r S L=>ap ⟨B,O,.d .none,Look.le_refl B,S,rfl,q⟩
theorem Loc.Qq{B R:Look}{s:aA}{x:Str}{p:PV}(L:Loc c V ρ B R)(S:Sat c B O R s)(hk:V.kindOf x=some .local)(h:ρ x=some p):∃m v,s.heap.Ns V.locals m/\m x=some v/\RV c.w B p v:=by
 calc gz L.ns λo es e g=>bV g λj hd hs l=>?_;have:=l x hk;rw[h] at this;cases q:nsFind es x with
 |none=>rw[q] at this;calc this.elim
 |some v=>rw[q] at this;calc bv (nsFind es) v<|aR ⟨o,es,e,S.fr _ _ j,hd,hs,λZ=>rfl⟩ q this
theorem Loc.Ql{B R:Look}{s:aA}{x:Str}{p:PV}(L:Loc c V ρ B R)(S:Sat c B O R s)(hk:V.kindOf x=some .cell\/V.kindOf x=some .free)(l:ρ x=some p):∃a v,V.cells.lookup x=some a/\s.heap.IsCell a (some v)/\RV c.w B p v:=by
 calc ai (L.has x hk) λa j=>aE (L.cell x a hk j) λo v g=>aN g λm hd h=>?_;rw[l] at h;cases v with
 |none=>calc h.elim
 |some v=>calc bv a v<|aR j ⟨_,S.fr _ _ m,hd⟩ h
theorem bJ{x:Str}{g:Pos}{p:PV}{Q:PV->al->Prop}(j:ρ x=some p)(q:Q p O)(hk:V.kindOf x=some .local:=by tm_at"k")(hd:(x==("__debug__":Str))=false:=by decide):WE c k V ρ (.Name x g) O Q:= .mk λA B R s r S L=>by calc aE (L.Qq S hk j) λm v h=>aN h λl z C=>CJ (wpAny_loadName_local L.fn hk l z ⟨B,O,p,Look.le_refl B,S,C,q⟩) hd
theorem cf{x:Str}{g:Pos}{p:PV}{Q:PV->al->Prop}(j:ρ x=some p)(q:Q p O)(hk:V.kindOf x=some .cell:=by tm_at"k")(hd:(x==("__debug__":Str))=false:=by decide):WE c k V ρ (.Name x g) O Q:= .mk λA B R s r S L=>by calc aE (L.Ql S (.inl hk) j) λa v h=>aN h λhc l m=>CJ (wpAny_loadName_cell L.fn hk hc l ⟨B,O,p,Look.le_refl B,S,m,q⟩) hd
theorem zI{x:Str}{g:Pos}{v:Value}{Q:PV->al->Prop}(hk:V.kindOf x=some .globalImplicit)(hd:(x==("__debug__":Str))=false)(h:c.mg x=some v)(q:Q (.ex v) O):WE c k V ρ (.Name x g) O Q:= .mk λA B R s r S L=>CJ (by rw[PK L.fn hk];calc J0 (L.gl▸c.hg _ S.gy) h ⟨B,O,.ex v,Look.le_refl B,S,rfl,q⟩) hd
theorem Vr{x:Str}{g:Pos}{i:Int}{t:Tok}{Q:PV->al->Prop}(hk:V.kindOf x=some .globalImplicit)(hd:(x==("__debug__":Str))=false)(h:c.mg x=some (.int i t))(q:Q (.d<|.int i) O):WE c k V ρ (.Name x g) O Q:= .mk λA B R s r S L=>CJ (by rw[PK L.fn hk];calc J0 (L.gl▸c.hg _ S.gy) h ⟨B,O,.d<|.int i,Look.le_refl B,S,⟨t,rfl⟩,q⟩) hd
theorem gO{x:Str}{g:Pos}{v:Value}{Q:PV->al->Prop}(hk:V.kindOf x=some .globalImplicit)(hd:(x==("__debug__":Str))=false)(h:c.mg x=none)(j:c.mb x=some v)(q:Q (.ex v) O):WE c k V ρ (.Name x g) O Q:= .mk λA B R s r S L=>CJ (by rw[PK L.fn hk];calc Calls.loadGlobal_builtin (L.gl▸c.hg _ S.gy) h (L.bl▸c.hb _ S.gy) j ⟨B,O,.ex v,Look.le_refl B,S,rfl,q⟩) hd
theorem iT{Q:List PV->al->Prop}(q:Q [] O):jz c k V ρ [] O Q:= .mk λA B R s g r S L=>ap ⟨B,O,[],Look.le_refl B,S,rfl,q⟩
theorem ba{e:Expr}{es:List Expr}{Q:List PV->al->Prop}(h:WE c k V ρ e O<|YT c k V ρ es Q)(he:starEach (e::es) V=(false,eval e V)::starEach es V:=by rfl):jz c k V ρ (e::es) O Q:= .mk λA B R s j r S L=>by rw[he];show ao _ _ (eval e V>>=λv=>pure [v]>>=λhere=>gL here (uB<|backTo j<|starEach es V)>>=λrest=>pure<|here++rest) _ _ s;calc af<|aS (h.1 A B R s r S L) (λv s₁ h₁=>?_) λZ Z x=>x;obtain⟨l,N,p,l₁,m,q,z⟩:=h₁;calc af<|ap<|af<|co<|aS (z.1 A l R s₁ j r m<|L.mono l₁) (λvs s₂ C=>?_) λZ Z x=>x;obtain⟨D,g,P,l₂,H,I,J⟩:=C;calc ap ⟨D,g,p::P,Look.le_trans l₁ l₂,H,⟨v,vs,rfl,q.mono l₂,I⟩,J⟩
theorem Sat.fresh{B R:Look}{s:aA}(S:Sat c B O R s):B s.heap.objs.size=none/\O s.heap.objs.size=none/\R s.heap.objs.size=none:=have h:=gA s.heap<|bS _;(aR (S.qK h) (S.qf h)<|S.pG h)
theorem Sat.rz{B R:Look}{s:aA}(S:Sat c B O R s){o:Obj}(hf:o.isFreed=false):Sat c (B.set s.heap.objs.size o) O R {s with heap:=s.heap.push o}:=by calc aN S.fresh λh1 g h=>?_;have:=(S.push o).rG h1 h<|dy _ hf;rwa [rM g] at this
theorem Sat.xE{B R:Look}{s:aA}(S:Sat c B O R s){o:Obj}{m:MO}(hf:o.isFreed=false)(hm:RM c.w B m o):Sat c B (upd O s.heap.objs.size m) R {s with heap:=s.heap.push o}:=by calc aN S.fresh λh1 h g=>(S.push o).own h1 g (dy _ hf) hm
theorem eE(B:Look)(a:Addr)(o:Obj):(B.set a o) a=some o:=by unfold Look.set;simp
theorem small.line{n:Nat}(h:small n):n<=ly:=by rw[dO];calc Q0 h
theorem cT{es:List Expr}{D:Nat}{z:Pos}{Q:PV->al->Prop}(h:jz c k V ρ es O<|YC Q):WE c k V ρ (.Tuple es D z) O Q:= .mk λA B R s r S L=>by
 calc Tuple_<|aS (h.1 A B R s z r S L) (λvs s₁ h₁=>?_) λZ Z x=>x;obtain⟨l,g,H,l₁,m,j,hs,C⟩:=h₁;calc nX ?_ (by show vs.toArray.size<=ly;rw[rX,j.length];calc small.line hs);have p:=m.rz (o:={cls:= .type "tuple",data:= .seq vs.toArray}) rfl;have l₂:l.le (l.set s₁.heap.objs.size {cls:= .type "tuple",data:= .seq vs.toArray}):=fW m.fresh.1;rcases C with⟨ds,rfl,q⟩|q
 .exact⟨_,g,.d<|.tup ds,Look.le_trans l₁ l₂,p,⟨_,_,_,_,rfl,eE ..,rfl,rfl,(bC.uN j).mono l₂⟩,q⟩
 .exact⟨_,g,.tp H,Look.le_trans l₁ l₂,p,⟨_,_,_,_,rfl,eE ..,rfl,rfl,j.mono l₂⟩,q⟩
theorem iG{es:List Expr}{p:Pos}{Q:PV->al->Prop}(h:jz c k V ρ es O<|RR Q):WE c k V ρ (.List es p) O Q:= .mk λA B R s r S L=>by calc List_<|aS (h.1 A B R s p r S L) (λvs s₁ h₁=>?_) λZ Z x=>x;obtain⟨g,m,z,l₁,j,l,hs,ds,rfl,q⟩:=h₁;calc nX ?_ (by show vs.toArray.size<=ly;rw[rX,l.length];calc small.line hs);have l₂:g.le (g.set s₁.heap.objs.size {cls:= .type "list",data:= .seq vs.toArray}):=fW j.fresh.1;calc⟨_,m,.d<|.lst ds,Look.le_trans l₁ l₂,(j.rz (o:={cls:= .type "list",data:= .seq vs.toArray}) rfl),⟨_,_,_,_,rfl,eE ..,rfl,rfl,(bC.uN l).mono l₂⟩,q⟩
theorem iV{es:List Expr}{l:Pos}{Q:PV->al->Prop}(h:jz c k V ρ es O<|XQ Q):WE c k V ρ (.List es l) O Q:= .mk λA B R s r S L=>by calc List_<|aS (h.1 A B R s l r S L) (λvs s₁ h₁=>?_) λZ Z x=>x;obtain⟨z,p,C,l₁,g,j,hs,q⟩:=h₁;calc nX ?_ (by show vs.toArray.size<=ly;rw[rX,j.length];calc small.line hs);calc⟨_,_,.ref _,l₁,(g.xE (o:={cls:= .type "list",data:= .seq vs.toArray}) (m:= .lst C) rfl ⟨_,_,rfl,by simpa using j⟩),rfl,q _ g.fresh.2.1⟩
end
end
section
variable{c:Cx}{k:Nat}{V:Env}{O:al}{ρ:az}
@[reducible] noncomputable def MZ (c:Cx) (k:Nat) (f:Value->Value->Sem Value) (a:PV) (Q:PV->al->Prop):PV->al->Prop:=λb O=>gF c k f a b O Q
@[reducible] noncomputable def KR (c:Cx) (k:Nat) (V:Env) (ρ:az) (r:Expr) (f:Value->Value->Sem Value) (Q:PV->al->Prop):PV->al->Prop:=λa O=>WE c k V ρ r O<|MZ c k f a Q
inductive KB (Q:Bool->al->Prop) (p:PV) (O:al):Prop
 |mk (b:Bool) (e:p= .d (.bool b)) (q:Q b O)
@[reducible] noncomputable def jf (P R:al->Prop):Bool->al->Prop:=λb O=>if b=true then P O else R O
theorem cB{b:Bool}{P R:Prop}(h:b=true)(p:P):if b=true then P else R:=by rw[if_pos h];calc p
theorem cy{b:Bool}{P R:Prop}(h:b=false)(p:R):if b=true then P else R:=by rw[if_neg (by rw[h];decide)];calc p
theorem oH{P R:al->Prop}{O:al}(h:jf P R true O):P O:=by simpa[jf] using h
theorem oM{P R:al->Prop}{O:al}(h:jf P R false O):R O:=by simpa[jf] using h
@[reducible] noncomputable def YL (ρ:az) (Q:Fl->al->az->Prop):PV->al->Prop:=λp O=>Q (.ret p) O ρ
@[reducible] noncomputable def Ra (ρ:az) (Q:Fl->al->az->Prop):PV->al->Prop:=λZ O=>Q .next O ρ
@[reducible] noncomputable def Kf (Q:Fl->al->az->Prop):al->az->Prop:=λO ρ=>Q .next O ρ
@[reducible] noncomputable def Zc (Q:Bool->al->Prop):Bool->al->Prop:=λb O=>Q (!b) O
@[reducible] noncomputable def PE (c:Cx) (k:Nat) (V:Env) (ρ:az) (e:Expr) (Q:PV->al->Prop):al->Prop:=λO=>WE c k V ρ e O Q
@[reducible] noncomputable def PB (c:Cx) (k:Nat) (V:Env) (ρ:az) (b:List Stmt) (Q:Fl->al->az->Prop):al->Prop:=λO=>WB c k V ρ b O Q
@[reducible] noncomputable def JH (c:Cx) (k:Nat) (V:Env) (ρ:az) (op:BoolOp) (es:List Expr) (Q:Bool->al->Prop):al->Prop:=λO=>xR c k V ρ op es O Q
@[reducible] noncomputable def PQ (p:PV) (Q:PV->al->Prop):al->Prop:=λO=>Q p O
@[reducible] noncomputable def PT (b:Bool) (Q:Bool->al->Prop):al->Prop:=λO=>Q b O
noncomputable def Nx(c:Cx)(k:Nat)(V:Env)(g:List Stmt)(Q:Fl->al->az->Prop):Fl->al->az->Prop
 | .next,O,ρ=>WB c k V ρ g O Q
 | .ret v,O,ρ=>Q (.ret v) O ρ
theorem Fo{M:oh}{A:cj}{E:Value->aA->Prop}{s:aA}{vs g:List Value}{Q:Unit->aA->Prop}(h:Q () s):ao M A (release vs g) Q E s:=λj p Z=>by rw[Sem.wp_release];calc h
theorem Ji{M:oh}{A:cj}{E:Value->aA->Prop}{s:aA}{vs:List Value}{m:Sem Value}{Q:Value->aA->Prop}(h:ao M A m Q E s):ao M A (operate vs m) Q E s:=λj p g=>by rw[Sem.wp_operate];calc h j p g
theorem iD{l r:Expr}{op:Operator}{J:Pos}{Q:PV->al->Prop}(h:WE c k V ρ l O<|KR c k V ρ r (sr op) Q):WE c k V ρ (.BinOp l op r J) O Q:= .mk λA B R s rm S L=>by calc wpAny_BinOp<|aS (h.1 A B R s rm S L) (λU s₁ h₁=>?_) λZ Z x=>x;obtain⟨g,N,a,l₁,j,m,p⟩:=h₁;calc aS (p.1 A g R s₁ rm j<|L.mono l₁) (λX s₂ q=>?_) λZ Z x=>x;obtain⟨z,P,b,l₂,C,D,H⟩:=q;calc aS (H.1 A z R s₂ U X rm C (m.mono l₂) D) (λv T I=>I.up<|Look.le_trans l₁ l₂) λZ Z x=>x
theorem sD{l r:Expr}{op:CmpOp}{J:Pos}{Q:PV->al->Prop}(hm:behindInMarks op r=false)(h:WE c k V ρ l O<|KR c k V ρ r (jY op) Q):WE c k V ρ (.Compare l [op] [r] J) O Q:= .mk λA B R s rm S L=>by calc wpAny_Compare1 (aS (h.1 A B R s rm S L) (λU s₁ h₁=>?_) λZ Z x=>x) hm;obtain⟨g,N,a,l₁,j,m,p⟩:=h₁;calc aS (p.1 A g R s₁ rm j<|L.mono l₁) (λX s₂ q=>?_) λZ Z x=>x;obtain⟨z,P,b,l₂,C,D,H⟩:=q;calc aS (H.1 A z R s₂ U X rm C (m.mono l₂) D) (λv T I=>I.up<|Look.le_trans l₁ l₂) λZ Z x=>x
theorem lP{l r:Expr}{op:CmpOp}{Z:Pos}{Q:Bool->al->Prop}(hm:behindInMarks op r=false)(h:WE c k V ρ l O<|KR c k V ρ r (jY op)<|KB Q):WT c k V ρ (.Compare l [op] [r] Z) O Q:= .mk λA B R s rm S L=>by calc wpAny_isTrue_Compare1 (aS (h.1 A B R s rm S L) (λva s₁ h₁=>?_) λ_ _ x=>x) hm;obtain⟨j,a0,a,l₁,m,q,z⟩:=h₁;calc aS (z.1 A j R s₁ rm m<|L.mono l₁) (λvb s₂ C=>?_) λ_ _ x=>x;obtain⟨D,a1,b,l₂,H,I,J⟩:=C;calc aS (J.1 A D R s₂ va vb rm H (q.mono l₂) I) (λv a2 N=>?_) λ_ _ x=>x;obtain⟨P,g,p,T,U,X,b,rfl,Y⟩:=N;rw[show v= .bool b from X];calc tV ⟨P,g,Look.le_trans (Look.le_trans l₁ l₂) T,U,Y⟩
theorem TR{l r q:Expr}{op j:CmpOp}{m:Pos}{Q:Bool->al->Prop}(hm:markedEach [op,j] [r,q] (evalEach [r,q] V)=[eval r V,eval q V])(h:WE c k V ρ l O λa z=>WE c k V ρ r z λb C=>gF c k (jY op) a b C<|KB<|jf (PE c k V ρ q<|MZ c k (jY j) b<|KB Q)<|PT false Q):WT c k V ρ (.Compare l [op,j] [r,q] m) O Q:= .mk λA B R s rm S L=>by
 have e:su (.Compare l [op,j] [r,q] m) V (eval (.Compare l [op,j] [r,q] m) V)=(eval l V>>=λlv=>testChain m lv [op,j]<|markedEach [op,j] [r,q]<|evalEach [r,q] V):=rfl;rw[e,hm];calc af<|aS (h.1 A B R s rm S L) (λva s₁ h₁=>?_) λ_ _ x=>x;obtain⟨a0,z,a,l₁,a1,a2,a3⟩:=h₁
 show ao _ _ (gL [va] (eval r V)>>=λH=>ix m>>=λ_=>gL [va,H] (jY op va H)>>=λZ=>release [va,H] [Z]>>=λ_=>gL [Z,H] (CZ Z)>>=λt=>
  if t=true then testChain m H [j] [eval q V] else pure false) _ _ s₁
 calc af<|co<|aS (a3.1 A a0 R s₁ rm a1<|L.mono l₁) (λvb s₂ a5=>?_) λ_ _ x=>x;obtain⟨a6,C,b,l₂,a7,I,a8⟩:=a5;calc af<|hY<|af<|co<|aS (a8.1 A a6 R s₂ va vb rm a7 (a2.mono l₂) I) (λv J a9=>?_) λ_ _ x=>x;obtain⟨D,X,p,N,P,b0,t,rfl,T⟩:=a9;rw[show v= .bool t from b0];have g:B.le D:=Look.le_trans (Look.le_trans l₁ l₂) N;calc af<|Fo<|af<|co<|tV ?_;cases t with
 |false=>
  calc cw rfl<|ap ⟨D,X,g,P,(oM T)⟩
 |true=>
  calc fM rfl ?_;show ao _ _ (gL [vb] (eval q V)>>=λH=>ix m>>=λ_=>operate [vb,H] (jY j vb H)>>=λZ=>gL [Z]<|CZ Z) _ _ J;calc af<|co<|aS ((oH T).1 A D R J rm P<|L.mono g) (λc3 b1 b2=>?_) λ_ _ x=>x;obtain⟨b3,c4,b',U,b4,b5,b6⟩:=b2;calc af<|hY<|af<|Ji<|aS (b6.1 A b3 R b1 vb c3 rm b4 (I.mono<|Look.le_trans N U) b5) (λv c5 b7=>?_) λ_ _ x=>x;obtain⟨b8,Y,p,b9,c0,c1,t',rfl,c2⟩:=b7;rw[show v= .bool t' from c1];calc co<|tV ⟨b8,Y,Look.le_trans g<|Look.le_trans U b9,c0,c2⟩
section
variable{Q:PV->al->Prop}{a b:Int}{x y:Dt}
theorem rc{f:Value->Value->Sem Value}(h:∀A B R s t u,Sat c B O R s->ao (aO c.prog c.w) A (f (.int a t)<|.int b u) (gc c Q B R) EF s):gF c k f (.d<|.int a) (.d<|.int b) O Q:= .mk λA B R s j l rm S p q=>ai p λt e=>ai q λu g=>by rw[e,g];calc h A B R s t u S
theorem W0(q:Q (.d<|.int<|a+b) O):gF c k (sr .Add) (.d<|.int a) (.d<|.int b) O Q:=rc λA B R s t u S=>PySem.P.add_int ⟨B,O,.d<|.int<|a+b,Look.le_refl B,S.toks _,⟨_,rfl⟩,q⟩
theorem W7(q:Q (.d<|.int<|a -b) O):gF c k (sr .Sub) (.d<|.int a) (.d<|.int b) O Q:=rc λA B R s t u S=>PySem.P.sub_int ⟨B,O,.d<|.int<|a -b,Look.le_refl B,S.toks _,⟨_,rfl⟩,q⟩
theorem TK(hm:IntMulOk a b)(q:Q (.d<|.int<|a*b) O):gF c k (sr .Mult) (.d<|.int a) (.d<|.int b) O Q:=rc λA B R s t u S=>PySem.P.mul_int ⟨B,O,.d<|.int<|a*b,Look.le_refl B,S.toks _,⟨_,rfl⟩,q⟩ hm
theorem IL(hb:b≠0)(q:Q (.d<|.int<|a.fmod b) O):gF c k (sr .Mod) (.d<|.int a) (.d<|.int b) O Q:=rc λA B R s t u S=>mod_int' hb ⟨B,O,.d<|.int<|a.fmod b,Look.le_refl B,S.toks _,⟨_,rfl⟩,q⟩
theorem Xh(hb:b≠0)(hp:E8 a b=false)(q:Q (.d<|.int<|a.fdiv b) O):gF c k (sr .FloorDiv) (.d<|.int a) (.d<|.int b) O Q:=rc λA B R s t u S=>floordiv_int hb ⟨B,O,.d<|.int<|a.fdiv b,Look.le_refl B,S.toks _,⟨_,rfl⟩,q⟩<|.inl hp
theorem Kt(q:Q (.d<|.bool<|decide<|a<b) O):gF c k (jY .Lt) (.d<|.int a) (.d<|.int b) O Q:=rc λA B R s t u S=>N6 ⟨B,O,.d<|.bool<|decide<|a<b,Look.le_refl B,S,rfl,q⟩
theorem Z0(q:Q (.d<|.bool<|decide<|a<=b) O):gF c k (jY .LtE) (.d<|.int a) (.d<|.int b) O Q:=rc λA B R s t u S=>PySem.P.le_int ⟨B,O,.d<|.bool<|decide<|a<=b,Look.le_refl B,S,rfl,q⟩
theorem TW(q:Q (.d<|.bool<|decide<|a>b) O):gF c k (jY .Gt) (.d<|.int a) (.d<|.int b) O Q:=rc λA B R s t u S=>PySem.P.gt_int ⟨B,O,.d<|.bool<|decide<|a>b,Look.le_refl B,S,rfl,q⟩
structure mU(x:Dt):Prop where
 flat:x.flat=true
 noBool:x.noBool=true
 depth:x.depth<=40
theorem fe(g:mU x)(hy:mU y)(q:Q (.d<|.bool<|decide<|x=y) O):gF c k (jY .Eq) (.d x) (.d y) O Q:= .mk λA B R s r z rm S j l=>by
 refine ai (be.reads (h:=s.heap) g.flat<|be.mono S.fb j) λas m=>ai (be.reads (h:=s.heap) hy.flat<|be.mono S.fb l) λC p=>SeqAt.compareEq_reads m p (Dt.we g.flat) (Dt.we hy.flat) ?_ ?_
 .rw[Dt.vo _ g.flat,Dt.vo _ hy.flat];have:=rm.u;exact(aV 0x7a415f5317a410f123ff3) (by assumption) g.depth
 .rw[Dt.Gf g.flat hy.flat g.noBool hy.noBool];calc⟨B,O,.d<|.bool<|decide<|x=y,Look.le_refl B,S,rfl,q⟩
theorem kU(g:mU x)(hy:mU y)(q:Q (.d<|.bool (!decide (x=y))) O):gF c k (jY .NotEq) (.d x) (.d y) O Q:= .mk λA B R s r z rm S j l=>by
 refine ai (be.reads (h:=s.heap) g.flat<|be.mono S.fb j) λas m=>ai (be.reads (h:=s.heap) hy.flat<|be.mono S.fb l) λC p=>SeqAt.compareNe_reads m p (Dt.we g.flat) (Dt.we hy.flat) ?_ ?_
 .rw[Dt.vo _ g.flat,Dt.vo _ hy.flat];have:=rm.u;exact(aV 0x7a415f5317a410f123ff3) (by assumption) g.depth
 .rw[Dt.Gf g.flat hy.flat g.noBool hy.noBool];calc⟨B,O,.d<|.bool (!decide (x=y)),Look.le_refl B,S,rfl,q⟩
end
theorem Fb{e:Expr}{g:Pos}{Q:Bool->al->Prop}(h:WT c k V ρ e O<|Zc Q):WT c k V ρ (.UnaryOp .Not e g) O Q:= .mk λA B R s rm S L=>by show ao _ _ (su e V (eval e V)>>=λb=>pure (!b)) _ _ s;calc af<|aS (h.1 A B R s rm S L) (λb s₁ h₁=>ap<|h₁.rec λB' ah l S q=>⟨B',ah,l,S,q⟩) λZ Z x=>x
theorem rF{op:BoolOp}{es:List Expr}{g:Pos}{Q:Bool->al->Prop}(h:xR c k V ρ op es O Q):WT c k V ρ (.BoolOp op es g) O Q:=⟨h.1⟩
theorem rH{op:BoolOp}{Q:Bool->al->Prop}(q:Q (op== .And) O):xR c k V ρ op [] O Q:= .mk λA B R s rm S L=>ap ⟨B,O,Look.le_refl B,S,q⟩
theorem rP{e:Expr}{es:List Expr}{Q:Bool->al->Prop}(h:WT c k V ρ e O<|jf (JH c k V ρ .And es Q)<|PT false Q):xR c k V ρ .And (e::es) O Q:= .mk λA B R s rm S L=>by
 show ao _ _ (su e V (eval e V)>>=λb=>match PA,b with| .And,false=>pure false| .Or,true=>pure true|_,_=>allTrue .And es V) _ _ s;calc af<|aS (h.1 A B R s rm S L) (λb s₁ h₁=>?_) λZ Z x=>x;obtain⟨g,m,l₁,j,l⟩:=h₁;cases b with
 |false=>calc ap ⟨g,m,l₁,j,oM l⟩
 |true=>calc aS ((oH l).1 A g R s₁ rm j<|L.mono l₁) (λv s₂ p=>p.up l₁) λZ Z x=>x
theorem rL{e:Expr}{es:List Expr}{Q:Bool->al->Prop}(h:WT c k V ρ e O<|jf (PT true Q)<|JH c k V ρ .Or es Q):xR c k V ρ .Or (e::es) O Q:= .mk λA B R s rm S L=>by
 show ao _ _ (su e V (eval e V)>>=λb=>match BoolOp.Or,b with| .And,false=>pure false| .Or,true=>pure true|_,_=>allTrue .Or es V) _ _ s;calc af<|aS (h.1 A B R s rm S L) (λb s₁ h₁=>?_) λZ Z x=>x;obtain⟨g,m,l₁,j,l⟩:=h₁;cases b with
 |true=>calc ap ⟨g,m,l₁,j,oH l⟩
 |false=>calc aS ((oM l).1 A g R s₁ rm j<|L.mono l₁) (λv s₂ p=>p.up l₁) λZ Z x=>x
theorem uT{f:Expr}{as:List Expr}{ks:List Keyword}{g:Pos}{Q:Bool->al->Prop}(h:WE c k V ρ (.Call f as ks g) O<|KB Q):WT c k V ρ (.Call f as ks g) O Q:= .mk λA B R s rm S L=>by show ao _ _ (eval (.Call f as ks g) V>>=λv=>ix _>>=λZ=>gL [v]<|CZ v) _ _ s;calc af<|aS (h.1 A B R s rm S L) (λv s₁ h₁=>?_) λZ Z x=>x;obtain⟨l,j,p,l₁,m,q,b,rfl,r⟩:=h₁;rw[show v= .bool b from q];calc af<|hY<|co<|tV ⟨l,j,l₁,m,r⟩
theorem Xd{e C:Expr}{q:Pos}{Q:PV->al->Prop}(h:WE c k V ρ e O<|KB<|jf (PE c k V ρ C Q)<|PQ (.d<|.bool false) Q):WE c k V ρ (.BoolOp .And [e,C] q) O Q:= .mk λA B R s rm S L=>by
 show ao _ _ (eval e V>>=λv=>ix q>>=λZ=>gL [v] (CZ v)>>=λt=>match PA,t with| .And,false| .Or,true=>pure v|_,_=>eval C V) _ _ s;calc af<|aS (h.1 A B R s rm S L) (λv s₁ h₁=>?_) λZ Z x=>x;obtain⟨g,m,p,l₁,j,r,b,rfl,l⟩:=h₁;rw[show v= .bool b from r];calc af<|hY<|af<|co<|tV ?_;cases b with
 |false=>calc ap ⟨g,m,.d<|.bool false,l₁,j,rfl,oM l⟩
 |true=>calc aS ((oH l).1 A g R s₁ rm j<|L.mono l₁) (λv s₂ z=>z.up l₁) λZ Z x=>x
theorem VA{e D m:Expr}{q:Pos}{Q:PV->al->Prop}(h:WE c k V ρ e O<|KB<|jf (PE c k V ρ D<|KB<|jf (PE c k V ρ m Q)<|PQ (.d<|.bool false) Q)<|PQ (.d<|.bool false) Q):WE c k V ρ (.BoolOp .And [e,D,m] q) O Q:= .mk λA B R s rm S L=>by
 show ao _ _ (eval e V>>=λv=>ix q>>=λZ=>gL [v] (CZ v)>>=λt=>match PA,t with| .And,false| .Or,true=>pure v|_,_=>eval (.BoolOp .And [D,m] q) V) _ _ s;calc af<|aS (h.1 A B R s rm S L) (λv s₁ h₁=>?_) λZ Z x=>x;obtain⟨g,r,p,l₁,j,z,b,rfl,l⟩:=h₁;rw[show v= .bool b from z];calc af<|hY<|af<|co<|tV ?_;cases b with
 |false=>calc ap ⟨g,r,.d<|.bool false,l₁,j,rfl,oM l⟩
 |true=>calc aS ((Xd<|oH l).1 A g R s₁ rm j<|L.mono l₁) (λv s₂ C=>C.up l₁) λZ Z x=>x
theorem Dy{t b o:Expr}{p:Pos}{Q:PV->al->Prop}(h:WT c k V ρ t O<|jf (PE c k V ρ b Q)<|PE c k V ρ o Q):WE c k V ρ (.IfExp t b o p) O Q:= .mk λA B R s rm S L=>by
 show ao _ _ (su t V (eval t V)>>=λr=>if r=true then eval b V else eval o V) _ _ s;calc af<|aS (h.1 A B R s rm S L) (λr s₁ h₁=>?_) λZ Z x=>x;obtain⟨j,q,l₁,l,m⟩:=h₁;cases r with
 |false=>calc aS ((oM m).1 A j R s₁ rm l<|L.mono l₁) (λv s₂ g=>g.up l₁) λZ Z x=>x
 |true=>calc aS ((oH m).1 A j R s₁ rm l<|L.mono l₁) (λv s₂ g=>g.up l₁) λZ Z x=>x
theorem cE{Q:Fl->al->az->Prop}(q:Q .next O ρ):WB c k V ρ [] O Q:= .mk λA B R s rm S L=>Ph ⟨B,O,R,ρ,.next,Look.le_refl B,λZ Z=>rfl,S,L,rfl,q⟩
theorem aU{st:Stmt}{H:List Stmt}{Q:Fl->al->az->Prop}(h:WS c k V ρ st O<|Nx c k V H Q):WB c k V ρ (st::H) O Q:= .mk λA B R s rm S L=>by
 calc wpAny_execs_cons<|aS (h.1 A B R s rm S L) (λf s₁ h₁=>?_) λZ Z x=>x;obtain⟨j,C,l,D,fl,l₁,g,m,q,r,z⟩:=h₁;cases fl with
 |next=>
  rw[show f= .next from r];calc aS (z.1 A j l s₁ rm m q) (λv s₂ I=>I.up l₁ g) λZ Z x=>x
 |ret p=>
  obtain⟨v,rfl,J⟩:=r;calc⟨j,C,l,D,.ret p,l₁,g,m,q,⟨v,rfl,J⟩,z⟩
theorem eX{e:Expr}{r:Pos}{Q:Fl->al->az->Prop}(h:WE c k V ρ e O<|YL ρ Q):WS c k V ρ (.Return (some e) r) O Q:= .mk λA B R s rm S L=>by calc wpAny_Return_some<|aS (h.1 A B R s rm S L) (λv s₁ h₁=>?_) λZ Z x=>x;obtain⟨j,g,p,l₁,l,m,q⟩:=h₁;calc⟨j,g,R,ρ,.ret p,l₁,λZ Z=>rfl,l,L.mono l₁,⟨v,rfl,m⟩,q⟩
theorem pU{t:Expr}{b o:List Stmt}{p:Pos}{Q:Fl->al->az->Prop}(h:WT c k V ρ t O<|jf (PB c k V ρ b Q)<|PB c k V ρ o Q):WS c k V ρ (.If t b o p) O Q:= .mk λA B R s rm S L=>by
 calc wpAny_If<|aS (h.1 A B R s rm S L) (λr s₁ h₁=>?_) λZ Z x=>x;obtain⟨j,q,l₁,l,m⟩:=h₁;cases r with
 |false=>calc aS ((oM m).1 A j R s₁ rm l<|L.mono l₁) (λv s₂ g=>nG.up l₁ (λZ Z=>rfl) g) λZ Z x=>x
 |true=>calc aS ((oH m).1 A j R s₁ rm l<|L.mono l₁) (λv s₂ g=>nG.up l₁ (λZ Z=>rfl) g) λZ Z x=>x
theorem eG{z:Expr}{as:List Expr}{g:List Keyword}{C j:Pos}{Q:Fl->al->az->Prop}(h:WE c k V ρ (.Call z as g C) O<|Ra ρ Q)(hs:HR (.Call z as g C) none j.line V=pure false:=by rfl):WS c k V ρ (.Expr (.Call z as g C) j) O Q:= .mk λA B R s rm S L=>by
 have hi:interactive V=false:=by unfold interactive;rw[L.fn];rfl
 rw[exec_Expr V _ j hi hs];calc af<|hY<|af<|aS (h.1 A B R s rm S L) (λv s₁ h₁=>?_) λZ Z x=>x;obtain⟨m,l,p,l₁,q,D,r⟩:=h₁;have fin:nG c V Q B R .next s₁:=⟨m,l,R,ρ,.next,l₁,λZ Z=>rfl,q,L.mono l₁,rfl,r⟩;cases v<;>first|calc ap fin|skip;calc af<|hY<|af<|Pq<|pc entry_let_go<|(show ao _ _ (ret .none) _ _ s₁ from ap<|ap fin)
end
section
variable{c:Cx}{k:Nat}{V:Env}{O:al}{ρ:az}
theorem Sat.sC(S:Sat c B O g s)(h:∀a o,R a=some o->g a=some o):Sat c B O R s where
 kb:=S.kb
 fb:=S.fb
 fr:=λa o e=>S.fr a o<|h a o e
 fm:=S.fm
 br:=λa o e=>by
  cases q:R a with
  |none=>rfl
  |some j=>have:=S.br a o e;rw[h a j q] at this;exact cU this
 bm:=S.bm
 rm:=λa o e=>S.rm a o<|h a o e
 gens:=S.gens
 os:=S.os
theorem Sat.xJ(S:Sat c B O R s)(h₀:R a=some l)(hs:lU a s.heap h')(j:h'.get? a=some o):Sat c B O (R.set a o) {s with heap:=h'} where
 kb:=S.kb
 fb:=λb g e=>hs.extBut b g (λx=>by clear j hs;subst x;have:=S.br _ _ e;rw[h₀] at this;calc cU this)<|S.fb b g e
 fr:=λb g e=>by
  unfold Look.set at e;split at e
  .cases e;subst_vars;exact j
  .exact hs.extBut b g ‹_› (S.fr b g e)
 fm:=λb m e=>by calc ai (S.fm b m e) λg h=>?_;exact⟨g,hs.extBut b g (λx=>by clear j hs;subst x;have:=S.rm _ _ h₀;rw[e] at this;calc cU this) h.1,h.2⟩
 br:=λb g e=>by
  unfold Look.set;split
  .subst_vars;have:=S.br _ _ e;rw[h₀] at this;exact cU this
  .exact S.br b g e
 bm:=S.bm
 rm:=λb g e=>by
  unfold Look.set at e;split at e
  .subst_vars;exact S.rm _ _ h₀
  .exact S.rm b g e
 gens:=S.gens
 os:=S.os
theorem jL(q:Q O<|aZ ρ x p)(hk:V.kindOf x=some .local:=by tm_at"k"):cW c k V ρ (.Name x l) p O Q:= .mk λA B R s v r S L X=>by
 calc gz L.ns λo es e h=>bV h λm hd hs Y=>?_;show ao _ _ (ix l>>=λ_=>zj V x v) _ _ s;calc af<|hY<|Pr<|P0 hk ⟨o,es,e,S.fr _ _ m,hd,hs,λ_=>rfl⟩ (λh' z C=>?_) (by rw[L.fn];rfl);obtain⟨U,D,Z,H,I,j,J⟩:=z;refine⟨B,O,R.set V.locals U,aZ ρ x p,Look.le_refl B,λa N=>?_,((S.xJ m C H).toks<|s.toks+1),⟨L.fn,L.gl,L.bl,jQ U D Z<|cx (eE ..) I j λy hy=>?_,λy a hy N=>?_,L.has,L.apart⟩,q⟩
 .unfold Look.set;rw[if_neg (λhh=>N<|.inl hh)]
 .rw[J];unfold aZ;by_cases g:y=x
  .rw[if_pos g];show fR _ _ _<|if y=x then _ else _;rw[if_pos g];exact X
  .rw[if_neg g];show fR _ _ _<|if y=x then _ else _;rw[if_neg g];exact Y y hy
 .refine aE (L.cell y a hy N) λoc vc h=>aN h λh1 P h3=>?_
  have T:a≠V.locals:=by rintro rfl;rw[m] at h1;cases h1;rw[hd] at P;cases P
  calc bv oc vc<|aR (by unfold Look.set;rw[if_neg T];calc h1) P ?_;unfold aZ;rw[if_neg (by rintro rfl;rw[hk] at hy;rcases hy with hy|hy<;>cases hy)];calc h3
theorem V9(q:Q O<|aZ ρ x p)(hk:V.kindOf x=some .cell:=by tm_at"k"):cW c k V ρ (.Name x l) p O Q:= .mk λA B R s v r S L T=>by
 calc ai (L.has x<|.inl hk) λa j=>aE (L.cell x a (.inl hk) j) λU vc g=>aN g λh1 m X=>?_;show ao _ _ (ix l>>=λ_=>zj V x v) _ _ s;calc af<|hY<|Pr<|wpAny_storeName_cell L.fn hk j ⟨U,S.fr _ _ h1,m⟩ λh' z C=>?_;obtain⟨N,D,H⟩:=z;calc gz L.ns λo es e g=>bV g λP hd hs Y=>?_;have I:V.locals≠a:=by rintro rfl;rw[P] at h1;cases h1;rw[hd] at m;cases m
 refine⟨B,O,R.set a N,aZ ρ x p,Look.le_refl B,λb hb=>?_,S.xJ h1 C D,⟨L.fn,L.gl,L.bl,jQ o es e<|cx (by unfold Look.set;rw[if_neg I];calc P) hd hs λy hy=>?_,λy b hy hb=>?_,L.has,L.apart⟩,q⟩
 .unfold Look.set;rw[if_neg (λhh:b=a=>hb<|.inr ⟨x,aR (.head _) (.inl hk)<|by rw[hh];calc j⟩)]
 .unfold aZ;rw[if_neg (by rintro rfl;rw[hk] at hy;cases hy)];exact Y y hy
 .by_cases h:y=x
  .clear hk X g q;subst h;rw[j] at hb;cases hb;exact bv N (some v)<|aR (eE ..) H<|by unfold aZ;rw[if_pos rfl];exact T
  .have J:b≠a:=λhh=>h<|L.apart y x b hb<|hh▸j;exact aE (L.cell y b hy hb) λob Z g=>aN g λg1 g2 g3=>bv ob Z<|aR (by unfold Look.set;rw[if_neg J];calc g1) g2<|by unfold aZ;rw[if_neg h];exact g3
@[reducible] noncomputable def JX (c:Cx) (k:Nat) (V:Env) (ρ:az) (t:Expr) (Q:al->az->Prop):PV->al->Prop:=λp O=>cW c k V ρ t p O Q
theorem cz(h:WE c k V ρ g O<|JX c k V ρ t<|Kf Q)(Y:sj [t] V=[(false,sv t V)]:=by rfl)(hs:PD [t] g j.line V=pure false:=by rfl)(Z:Cr [t] g V=pure none:=by rfl):WS c k V ρ (.Assign [t] g j) O Q:= .mk λA B R s r S L=>by show ao _ _ (ix j>>=λ_=>PD [t] g j.line V>>=λb=>if b=true then _ else(eval g V>>=λv=>Cr [t] g V>>=λsw=>assignStores V v sw ((sj [t] V).map (·.2)))) _ _ s;rw[hs,Z,Y];calc af<|hY<|af<|ap<|cw rfl<|af<|aS (h.1 A B R s r S L) (λv s₁ h₁=>?_) λ_ _ x=>x;obtain⟨z,X,p,l₁,C,D,H⟩:=h₁;calc af<|ap ?_;show ao _ _ (sv t V v>>=λ_=>pure Flow.next) _ _ s₁;calc af<|aS (H.1 A z R s₁ v r C (L.mono l₁) D) (λ_ s₂ I=>?_) λ_ _ x=>x;obtain⟨J,l,N,m,l₂,q,P,T,U⟩:=I;calc ap ⟨J,l,N,m,.next,Look.le_trans l₁ l₂,λa ha=>q a λh=>ha h.pI,P,T,rfl,U⟩
noncomputable def tE:List (Str×PV)->az->az
 |[],ρ=>ρ
 |(n,p)::r,ρ=>tE r<|aZ ρ n p
structure HZ(c:Cx)(fa:Addr)(params:List Str)(body:List Stmt)(scope:eb):Prop where
 is:∃o fd,c.K.lookup fa=some o/\o.data= .func fd/\fd.body= .stmts body/\fd.scope=scope/\fd.globals=uh/\fd.closure=[]/\fd.builtins=CL/\ (∀h,c.K.In h->h.CodeRec fd.code fd.qualname)/\(∀vs:List Value,vs.length=params.length->bindArgs fd ⟨vs,[]⟩=pure (params.zip vs))
 kind:scope.kind= .function
 plain:scope.isCoroutine=false/\scope.isGenerator=false
 names:(params.all λx=>scope.names.lookup x==some .local||scope.names.lookup x==some .cell)=true
 cells:((ux 0 scope.names []).map (·.1)).Nodup
 Vl:(scope.names.all λx=>x.2 != .free)=true
theorem ND:∀(names:List<|Str×jc) (n:Nat) (g:List<|Str×Addr),names.lookup x=some .cell\/(g.lookup x).isSome=true->((ux n names g).lookup x).isSome=true:=cellsFrom_some
theorem UU{kindOf:Str->Option jc}:∀{ns:List Str} {q:List PV} {vs:List Value} {ρ:az} {m cm:Str->Option Value},bC w B q vs->(∀x,kindOf x=some .local->fR w B (ρ x) (m x))->(∀x,kindOf x≠some .local->fR w B (ρ x) (cm x))->(∀x,kindOf x=some .local->fR w B (tE (ns.zip q) ρ x) (bindL kindOf (ns.zip vs) m x))/\(∀x,kindOf x≠some .local->fR w B (tE (ns.zip q) ρ x) (bindC kindOf (ns.zip vs) cm x)):=by
 intro r;induction r with
 |nil=>
  intro _ _ _ _ _ _ h1 l;calc⟨h1,l⟩
 |cons n ns H=>
  intro z;cases z with
  |nil=>
   intro vs _ _ _ h h1 l;rw[show vs=[] from h];calc⟨h1,l⟩
  |cons p q=>
   intro vs ρ m cm C h1 l;obtain⟨v,I,e,D,hs⟩:=C;subst e;refine H hs (λx g=>?_) λx g=>?_
   .unfold aZ;by_cases j:kindOf n=some .local
    .rw[if_pos j];show fR w B _<|if x=n then _ else _;split
     .exact D
     .exact h1 x g
    .rw[if_neg j];rw[if_neg (by rintro rfl;calc j g)];exact h1 x g
   .unfold aZ;by_cases j:kindOf n=some .local
    .rw[if_pos j];rw[if_neg (by rintro rfl;calc g j)];exact l x g
    .rw[if_neg j];show fR w B _<|if x=n then _ else _;split
     .exact D
     .exact l x g
noncomputable def Fl.val:Fl->PV
 | .next=> .d .none
 | .ret p=>p
@[reducible] noncomputable def WN (Q:PV->al->Prop):Fl->al->az->Prop:=λfl O Z=>Q fl.val O
theorem Sat.Zb(S:Sat c B O R s)(hg:s'.gens=s.gens)(j:s'.os=s.os)(k:∀b o,s.heap.get? b=some o->s'.heap.get? b=some o)(T:Look)(h:∀a o,T a=some o->s'.heap.get? a=some o/\s.heap.get? a=none):Sat c B O (λa=>match T a with|some o=>some o|none=>R a) s' where
 kb:=S.kb
 fb:=λa o e=>k a o<|S.fb a o e
 fr:=λa o e=>by
  cases q:T a with
  |none=>rw[q] at e;calc k a o<|S.fr a o e
  |some g=>rw[q] at e;cases e;exact(h a _ q).1
 fm:=λa m e=>ai (S.fm a m e) λo q=>⟨o,k a o q.1,q.2⟩
 br:=λa o e=>by
  cases q:T a with
  |none=>calc S.br a o e
  |some g=>have:=S.fb a o e;rw[(h a g q).2] at this;exact bp this
 bm:=S.bm
 rm:=λa o e=>by
  cases q:T a with
  |none=>rw[q] at e;calc S.rm a o e
  |some g=>exact S.qf (h a g q).2
 gens:=by rw[hg];exact S.gens
 os:=by rw[j];calc S.os
structure kP(c:Cx)(k:Nat)(f:Value)(args:List PV)(O:al)(Q:PV->al->Prop):Prop where
 go:∀A B R s vs,cP k A->Sat c B O R s->bC c.w B args vs->lz (aO c.prog c.w) A (.call f ⟨vs,[]⟩) (λr s'=>match r with| .ok (.ret v)=>gc c Q B R v s'|_=>False) s
theorem kP.toT(h:kP c k f args O Q):aW c k f args O Q:= .mk λA B R s vs r S g=>PZ (lW (h.1 A B R s vs r S g) λr s' z=>by
  rcases r with e|(v|_|_|_)
  .exact z.elim
  all_goals first|calc z|calc z.elim)
theorem kP.mono(h:kP c k f args O Q)(i:∀p O,Q p O->j p O):kP c k f args O j:= .mk λA B R s vs r S g=>lW (h.1 A B R s vs r S g) λr s' z=>by
  rcases r with e|(v|_|_|_)
  .exact z.elim
  all_goals first|exact z.elim|skip
  obtain⟨B',ah,m,l,C,g,q⟩:=z;calc⟨B',ah,m,l,C,g,i _ _ q⟩
theorem MM{fa:Addr}{params:List Str}{body:List Stmt}{scope:eb}{ps:List PV}{Q:PV->al->Prop}(F:HZ c fa params body scope)(a8:ps.length=params.length)(h:∀V:Env,V.scope=scope->WB c k V (tE (params.zip ps) λ_=>none) body O (WN Q)):kP c (k+1) (.ref fa) ps O Q:= .mk λA B R s vs r S rv=>by
 classical
 obtain⟨⟨o,fd,ho,Y,Z,g,a0,a9,b0,a1,a2⟩,D,⟨b6,b1⟩,J,b5,a3⟩:=F;have hK:=S.gy;calc codeAny_call_function r.d (hK _ _ ho) Y (by rw[g];calc b6) (by rw[g];calc b1) Z (a1 _ hK) ?_;rw[a2 vs (by rw[rv.length,a8])];calc ap ?_;rw[g,a0,a9,b0];have L:∀x∈params.zip vs,scope.names.lookup x.1=some .local\/(scope.names.lookup x.1=some .cell/\((ux (s.heap.objs.size+1) scope.names []).lookup x.1).isSome=true):=λx j=>by have:=jb.mp J x.1 (Ce j).1;simp only[Bool.or_eq_true,beq_iff_eq] at this;exact this.imp id λe=>⟨e,ND _ _ _<|.inl e⟩
 calc wpAny_newFunctionEnv_cells D L λV q s' hI=>?_;have N:V.scope=scope:=by rw[q];rfl
 have b7:V.cells=ux (s.heap.objs.size+1) scope.names []:=by rw[q];rfl
 have b8:V.globals=uh:=by rw[q];rfl
 have b9:V.builtins=CL:=by rw[q];rfl
 calc aE hI.done λh' tk b2=>?_;have a5:=b2.1;have a6:s'.heap=h':=by rw[a5]
 have H:∀b o,s.heap.get? b=some o->s'.heap.get? b=some o:=λb o e=>by rw[a6];exact b2.2 b o e
 calc⟨c.lim _ λa o e=>H a o<|hK a o e,codeAny_func ?_⟩;obtain⟨oL,es,ep,c0,c1,c2,kQ⟩:=hI.toInCall.ns;let T:Look:=λa=>if a=V.locals\/(∃x,V.cells.lookup x=some a) then s'.heap.get? a else none
 have C:∀a,(a=V.locals\/∃x,V.cells.lookup x=some a)->s.heap.get? a=none:=λa ha=>by
  have hL:=hI.toInCall.fresh;rcases ha with rfl|⟨x,j⟩
  .exact gA _ hL
  .exact gA _<|lV<|yN hL<|hI.above x a<|mem_of_lookup j
 have hT:∀a o,T a=some o->s'.heap.get? a=some o/\s.heap.get? a=none:=λa o e=>by
  show _/\_;change (if _ then _ else _)=_ at e;split at e
  .exact⟨e,C a ‹_›⟩
  .exact bp e
 have b3:=UU (kindOf:=V.kindOf) (ns:=params) (ρ:=λ_=>none) (m:=λ_=>none) (cm:=λ_=>none) rv (λ_ _=>trivial) λ_ _=>trivial
 have L':Loc c V (tE (params.zip ps) λ_=>none) B (λa=>match T a with|some o=>some o|none=>R a):=by
  refine⟨by rw[N];calc D,b8,b9,jQ oL es ep<|cx ?_ c1 c2 λx j=>?_,λx a j ha=>?_,λx j=>?_,λx y a j hy=>name_of_addr hI.apart (mem_of_lookup j)<|mem_of_lookup hy⟩
  .have:T V.locals=some oL:=by show(if _ then _ else _)=_;rw[if_pos (Or.inl rfl)];exact c0
   simp only[this]
  .rw[kQ];exact b3.1 x j
  .obtain⟨oc,c3,c4⟩:=hI.cell x a ha
   have:T a=some oc:=by show(if _ then _ else _)=_;rw[if_pos (Or.inr ⟨x,ha⟩)];exact c3
   exact bv oc _<|aR (by simp only[this]) c4<|b3.2 x<|by rcases j with e|e<;>rw[e]<;>decide
  .rcases j with j|j
   .have:(V.cells.lookup x).isSome=true:=by
     rw[b7];exact ND _ _ _<|.inl<|by rw[<-N];exact j
    exact BK.mp this
   .exfalso;have hm:(x,nj)∈scope.names:=mem_of_lookup (by rw[<-N];calc j);have:=jb.mp a3 _ hm;simp at this
 have rm:cP k (A.deeper V):=⟨r.handled,by have:=r.depth;show A.depth+1+k<=690;calc(aq 9710077936661697) this,by have:=r.units;show A.units+3+8*k+60<=dP;calc(ax 0x25423f422f340cf125423f422fc1) this⟩;calc aS ((h V N).1 (A.deeper V) B _ s' rm (S.Zb (s':=s') (by rw[a5]) (by rw[a5]) H T hT) L') (λf s₁ h₁=>?_) λ_ _ x=>x.elim;obtain⟨I,l,c7,c5,fl,l₁,a7,b4,c8,P,U⟩:=h₁
 have X:Sat c I l R s₁:=b4.sC λa o e=>by
  have hn:¬(a=V.locals\/∃x,V.cells.lookup x=some a):=λhh=>by have:=S.fr a o e;rw[C a hh] at this;exact bp this
  rw[a7 a λhh=>hn (hh.imp id λz=>z.imp λx y=>y.2)];have:T a=none:=if_neg hn;simp only[this];exact e
 cases fl with
 |next=>
  rw[show f= .next from P];calc⟨I,l,.d .none,l₁,X,rfl,U⟩
 |ret p=>
  obtain⟨v,rfl,c6⟩:=P;calc⟨I,l,p,l₁,X,c6,U⟩
structure jp(c:Cx)(C:Addr):Prop where
 xA:og c.K (.ref C) "__getattribute__"=some (some<|.builtin "object.__getattribute__")
 WZ:og c.K (.ref C) "__getattr__"=some none
 EV:og c.K (.ref C) "__setattr__"=some (some<|.builtin "object.__setattr__")
 over:plainOver c.K C=true
 dict:hasDictIn c.K C=true
 makes:makesIn c.K C=true
 keep:pA c.K (.ref C)=true
noncomputable def ic(c:Cx)(C:Addr)(x:Str):Prop:=og c.K (.ref C) x=some none
structure iY(c:Cx)(C:Addr)(x:Str)(f:Addr):Prop where
 find:og c.K (.ref C) x=some (some<|.ref f)
 fn:typeIn c.K (.ref f)=some (.type "function")
 keep:pA c.K (.ref f)=true
noncomputable def PV.plain:PV->Bool
 | .ex _=>false
 |_=>true
theorem RV.handed(hp:p.plain=true)(h:RV w B p v):handedIn v=true:=by
 cases p with
 |ex v=>calc ek hp
 |ref a=>rw[show v= .ref a from h];rfl
 |tp l=>obtain⟨a,o,it,e,rfl,_⟩:=h;rfl
 |d x=>
  cases x with
  |none=>rw[show v= .none from h];rfl
  |bool b=>rw[show v= .bool b from h];rfl
  |int n=>obtain⟨t,rfl⟩:=h;rfl
  |str n=>obtain⟨t,rfl⟩:=h;rfl
  |tup l=>obtain⟨a,o,it,e,rfl,_⟩:=h;rfl
  |lst l=>obtain⟨a,o,it,e,rfl,_⟩:=h;rfl
  |aM ks vs=>obtain⟨a,o,it,e,rfl,_⟩:=h;rfl
theorem IE(hd:o.data= .dict es e)(hs:zm es):lookIn x o=some (nsFind es x):=by
 obtain⟨j,l,dt,sl⟩:=o;simp only at hd;subst hd;unfold lookIn nsFind findBy;dsimp only;have g:es.any (·.refKey)=false:=by rw[M0];intro e he;calc aE (hs e he) λn t h=>?_;simp[J8,h]
 first
  |(cases h:es.find? (λe=>e.key.isStr x)<;>simp[h,g])
  |(rw[<-Array.find?_toList,<-O9] at*;cases h:es.toList.find? (λe=>e.key.isStr x)<;>simp_all)
theorem Sat.inst(S:Sat c B O R s)(l:O a=some (.inst C dx))(hd:O dx=some (.ns n σ)):∃h es e,InstAt s.heap a (instObj C dx) C (some h)/\s.heap.get? dx=some h/\h.data= .dict es e/\zm es/\es.size<=n/\∀x,fR c.w B (σ x) (nsFind es x):=by calc ai (S.fm _ _ l) λo g=>?_;have m:=g.1;have rm:=g.2;obtain⟨h,j,es,e,h1,p,q,r⟩:=S.fm _ _ hd;have:o=instObj C dx:=rm;clear g rm;subst this;calc jQ h es e<|tG ⟨m,rfl,rfl,j⟩ j h1 p q r
inductive TM (c:Cx) (x:Str) (Q:PV->al->Prop) (p:PV) (O:al):Prop
 |mk (a C dx:Addr) (n:Nat) (σ:az) (v:PV) (e:p= .ref a) (ha:O a=some (.inst C dx)) (hd:O dx=some (.ns n σ)) (hx:σ x=some v) (hp:v.plain=true) (hC:jp c C) (hN:ic c C x) (q:Q v O)
inductive RP (c:Cx) (x:Str) (p:PV) (ρ:az) (Q:al->az->Prop) (po:PV) (O:al):Prop
 |mk (a C dx:Addr) (n:Nat) (σ:az) (e:po= .ref a) (ha:O a=some (.inst C dx)) (hd:O dx=some (.ns n σ)) (hn:n<=1000) (hC:jp c C) (hN:ic c C x) (q:Q (upd O dx<|.ns (n+1)<|aZ σ x p) ρ)
theorem tm(hb:attributeBase e x V (eval e V)=eval e V)(h:WE c k V ρ e O<|TM c x Q):WE c k V ρ (.Attribute e x H) O Q:= .mk λA B R s r S L=>by
 show ao _ _ (attributeBase e x V (eval e V)>>=λo=>ix H.atName>>=λ_=>gL [o] (getAttr o x true)>>=λr=>letTemporaryGo e o r>>=λ_=>pure r) _ _ s;rw[hb];calc af<|aS (h.1 A B R s r S L) (λv s₁ h₁=>?_) λ_ _ x=>x;obtain⟨l,m,p,l₁,g,z,a,C,dx,n,σ,T,rfl,X,hd,Y,hp,U,Z,q⟩:=h₁;rw[show v= .ref a from z];calc gz (g.inst X hd) λod es ep J=>gS J λI a0 N P a1 hr=>?_;have j:=hr x;rw[Y] at j;cases hf:nsFind es x with
 |none=>rw[hf] at j;calc j.elim
 |some u=>
  rw[hf] at j;have D:RV c.w l T u:=j;have hl:lookIn x od=some (some u):=by rw[IE N P,hf]
  calc af<|hY<|af<|co<|get_value g.gy I U.xA (findObj_own U.dict Z rfl hl) (D.handed hp)<|af<|R8<|ap ⟨l,m,T,l₁,g.toks _,D,q⟩
theorem XT{h:Heap}{a:Addr}{o:Obj}{es:Array en}{name:Str}(l:h.get? a=some o)(hd:o.data= .dict es ep)(hk:zm es):∃m g j,(h.update a<|Obj.putName name hh (.str name t) v).get? a=some m/\m.data= .dict g j/\zm g/\g.size<=es.size+1/\∀x,nsFind g x=if x=name then some v else nsFind es x:=by
 obtain⟨p,d,dt,sl⟩:=o;simp only at hd;subst hd;cases hi:es.findIdx? (·.key.isStr name) with
 |some i=>
  calc jQ _ _ ep<|km (fK _ l<|by simp only[Hs,GQ,hi];rfl) (by simp only[Hs,GQ,hi];rfl) (hk.modify _ _) (by simp) λx=>?_;calc findBy_modify (λn v=>v.isStr n) Value.isStr_inj es name x v i hi
 |none=>
  refine jQ _ _ (ep+1)<|km (fK _ l<|by simp only[Hs,GQ,hi];rfl) (by simp only[Hs,GQ,hi];rfl) (hk.push _ _ _ _) (by simp) λx=>?_
  exact findBy_push (λn v=>v.isStr n) es name x _ _ v (λy=>by
    show(name==y)=decide (y=name);by_cases h:y=name
    .clear hi;subst h;simp
    .have:¬name=y:=λe=>h e.symm;simp[h,this]) hi
theorem Zs{es:Array en}{o:Obj}(hd:o.data= .dict es e)(h:es.size<=1000000):o.data.pastItsLine=none:=by rw[hd];unfold Data.pastItsLine;dsimp only;rw[if_neg (by rw[dO];calc(aB 0xd71481af205f1) h)]
theorem jg{Q:al->az->Prop}(h:WE c k V ρ e O<|RP c x p ρ Q):cW c k V ρ (.Attribute e x a6) p O Q:= .mk λA B R s v r S L rv=>by
 rw[assign_Attribute];calc af<|co<|aS (h.1 A B R s r S L) (λov s₁ h₁=>?_) λ_ _ x=>x;obtain⟨H,a1,po,l₁,j,J,a,C,dx,n,σ,rfl,ha,hd,hn,hC,hN,q⟩:=h₁;rw[show ov= .ref a from J];calc gz (j.inst ha hd) λod es ep l=>gS l λI D N P T hr=>af<|hY<|af<|co ?_;clear l;obtain⟨hh,g,dr,tk,os⟩:=s₁;calc set_plain j.gy I hC.EV<|osa_open (s:=⟨hh,g,dr,tk+1,os⟩) (r:=none) j.gy I hC.over (by unfold takerIn;rw[hN];rfl) λb=>?_;dsimp only;calc ai (any_some hC.dict) λcd l=>?_;calc af<|ap<|af<|af<|wpAny_loadPart I.at_<|af<|(looks_clsIn j.gy l.1).at ?_;rw[l.2];calc ap (a:=some dx)<|af<|ap<|af ?_;unfold nsSet;calc af<|af<|Ch<|ap<|af<|wpAny_mkText<|af<|wpAny_loadPart D ?_;rw[N];dsimp only;have U:es.any (·.refKey)=false:=by rw[M0];intro e he;calc aE (P e he) λn t h=>?_;simp[J8,h]
 calc cw (by rw[aRefKeyMayBeTheName_eq];unfold aRefKeyMayBeTheNameByArray;rw[U,Pe];rfl) ?_;refine wpAny_updatePart D<|gz (XT (t:=tk+1) (hh:=P9 c.w.params x) (v:=v) (name:=x) D N P) λo' a2 a3 l=>fi l λX Y Z z a5=>af<|wpAny_lookBehind X (Zs Y<|(ax 0x205f1206f3235203f1) hn T z) ?_
 have a0:=(j.turn (m:= .ns (n+1)<|aZ σ x p) hd (dA hh dx<|Obj.putName x (P9 c.w.params x) (.str x<|tk+1) v) X ⟨a2,a3,Y,Z,(ax 3028544521201) T z,λy=>by
  rw[a5];unfold aZ;by_cases hy:y=x
  .rw[if_pos hy,if_pos hy];exact rv.mono l₁
  .rw[if_neg hy,if_neg hy];calc hr y⟩)
 calc ap<|Fo ⟨H,_,R,ρ,l₁,λ_ _=>rfl,a0.toks<|tk+2,L.mono l₁,q⟩
theorem bC.one(h:RV w B p v):bC w B [p] [v]:=⟨v,[],rfl,h,rfl⟩
noncomputable def Callee(c:Cx)(f:Value):Prop:=(∃id,f= .builtin id)\/(∃T,f= .type T)\/pA c.K f=true
theorem Callee.keeps(h:Callee c f)(hp:Heap)(X:c.K.In hp):∃k,(k=Keeper.frame\/k=Keeper.machine\/k=Keeper.boundFrame)/\Looks M hp (keeperOf f) k:=by
 rcases h with⟨id,rfl⟩|⟨T,rfl⟩|h
 .exact⟨.machine,.inr<|.inl rfl,Hu rfl⟩
 .exact⟨.machine,.inr<|.inl rfl,Hu rfl⟩
 .exact keeps_K h hp X
theorem Callee.bi{id:String}:Callee c (.builtin id):= .inl ⟨_,rfl⟩
theorem Callee.ty:Callee c (.type T):= .inr<|.inl ⟨_,rfl⟩
theorem Callee.fn(h:pA c.K f=true):Callee c f:= .inr<|.inr h
theorem wm(hs:args.all (λx=> !x.1)=true)(h:ao M A (uB<|backTo g args) (λvs s'=>Q ⟨vs,[]⟩ s') E s):ao M A (evalArgs f true (backTo g args) []) Q E s:=by
 cases args with
 |nil=>
  unfold evalArgs;show ao M A (uB []>>=_) Q E s;calc af<|aS h (λvs s' h'=>af<|ap<|co<|af<|ap<|af<|ap<|ap h') λZ Z x=>x
 |cons y rest=>
  obtain⟨b,x⟩:=y;cases b with
  |false=>calc Calls.evalArgs_plain h
  |true=>calc ek hs
theorem plain_any(h:args.all (λx=> !x.1)=true):((backTo g args).any (·.1)||([]:List<|Option Str×Sem Value).any (·.1.isNone))=false:=by simp only[List.any_nil,Bool.or_false];unfold backTo;rw[List.any_map];rw[List.any_eq_false];intro x j;simpa using(jb.mp h x j)
@[reducible] noncomputable def Re (c:Cx) (k:Nat) (f:Value) (Q:PV->al->Prop):List PV->al->Prop:=λg O=>aW c k f g O Q
@[reducible] noncomputable def Ie (c:Cx) (k:Nat) (f:Value) (selfs:List PV) (Q:PV->al->Prop):List PV->al->Prop:=λg O=>aW c k f (selfs++g) O Q
inductive Yt (c:Cx) (k:Nat) (V:Env) (ρ:az) (args:List Expr) (Q:PV->al->Prop) (p:PV) (O:al):Prop
 |mk (fv:Value) (e:p= .ex fv) (hf:Callee c fv) (h:jz c k V ρ args O<|Re c k fv Q)
theorem Kk(r:cP k A)(S:Sat c B O R s)(L:Loc c V ρ B R)(hf:Callee c f)(z:bC c.w B selfs first)(hs:(starEach args V).all (λx=> !x.1)=true)(h:jz c k V ρ args O<|Ie c k f selfs Q):ao (aO c.prog c.w) A (nv j f first (backTo j<|starEach args V) []) (gc c Q B R) EF s:=by calc wQ (plain_any hs) (λhp X=>hf.keeps hp X)<|wm hs<|aS (h.1 A B R s j r S L) (λvs s₁ h₁=>?_) λZ Z x=>x;obtain⟨l,C,D,l₁,g,m,p⟩:=h₁;calc⟨g.gy,aS (p.1 A l R s₁ _ r g<|(bC.mono l₁ z).append m) (λv s₂ q=>q.up l₁) λZ Z x=>x⟩
theorem AC(he:eval (.Call f args [] g) V=(eval f V>>=λv=>nv g v [] (backTo g<|starEach args V) []))(hs:(starEach args V).all (λx=> !x.1)=true)(h:WE c k V ρ f O<|Yt c k V ρ args Q):WE c k V ρ (.Call f args [] g) O Q:= .mk λA B R s r S L=>by rw[he];calc af<|aS (h.1 A B R s r S L) (λv s₁ h₁=>?_) λZ Z x=>x;obtain⟨z,p,D,l₁,j,l,C,rfl,hf,q⟩:=h₁;rw[show v=C from l];calc aS (Kk (selfs:=[]) r j (L.mono l₁) hf rfl hs q) (λv s₂ m=>m.up l₁) λZ Z x=>x
structure nL(c:Cx)(p:PV)(name:Str)(O:al)(P:Value->List PV->Prop):Prop where
 go:∀A B R s v pl (Z:Value×List Value->aA->Prop),Sat c B O R s->RV c.w B p v->(∀fv vs ps,Callee c fv->bC c.w B ps vs->P fv ps->Z (fv,vs) s)->ao (aO c.prog c.w) A (getMethod v name pl) Z EF s
@[reducible] noncomputable def XY (c:Cx) (k:Nat) (V:Env) (ρ:az) (args:List Expr) (O:al) (Q:PV->al->Prop):Value->List PV->Prop:=λg h=>jz c k V ρ args O<|Ie c k g h Q
@[reducible] noncomputable def Ww (c:Cx) (k:Nat) (V:Env) (ρ:az) (name:Str) (args:List Expr) (Q:PV->al->Prop):PV->al->Prop:=λg O=>nL c g name O<|XY c k V ρ args O Q
theorem W1(he:eval (.Call (.Attribute o name g) args [] l) V=(do
   let H <-eval o V;ix g.atName;let (f,first) <-gL [H] (getMethod H name pl);nv l f first (backTo l<|starEach args V) [])) (hs:(starEach args V).all (λx=> !x.1)=true)
  (h:WE c k V ρ o O<|Ww c k V ρ name args Q):WE c k V ρ (.Call (.Attribute o name g) args [] l) O Q:= .mk λA B R s r S L=>by
 rw[he];calc af<|aS (h.1 A B R s r S L) (λv s₁ h₁=>?_) λZ Z x=>x;obtain⟨m,D,J,l₁,j,p,q⟩:=h₁;calc af<|hY<|af<|co<|q.1 A m R s₁ v pl _ j p λN vs P hf I z=>aS (Kk r j (L.mono l₁) hf I hs z) (λv s₂ C=>C.up l₁) λZ Z x=>x
theorem yp(q:O a=some (.inst C dx))(hd:O dx=some (.ns n σ))(r:σ name=none)(m:jp c C)(hm:iY c C name f)(p:P (.ref f) [.ref a]):nL c (.ref a) name O P:= .mk λA B R s v pl Z S D z=>by
 rw[show v= .ref a from D];calc gz (S.inst q hd) λN es ep h=>gS h λI H j l J L=>?_;have g:=L name;rw[r] at g
 have hf:nsFind es name=none:=by
  cases hf:nsFind es name with
  |none=>rfl
  |some u=>rw[hf] at g;exact g.elim
 calc method_fn S.gy I m.xA m.WZ hm.find hm.fn (by unfold shadowIn;dsimp only;rw[IE j l,hf];rfl)<|z _ _ _ (.fn hm.keep) (.one (p:= .ref a) rfl) p
theorem ij{a:Addr}{l:List PV}{name:Str}{id:String}{P:Value->List PV->Prop}(h:O a=some (.lst l))(sl:Slot "list" name id)(j:zn (.builtin id)=pure (.type "method_descriptor"))(p:P (.builtin id) [.ref a]):nL c (.ref a) name O P:= .mk λA B R s v pl Z S m z=>by rw[show v= .ref a from m];obtain⟨o,g,it,e,rfl,_⟩:=S.fm _ _ h;calc Hj ⟨_,g,rfl⟩ PySem.F.plainAttrs_list sl j (λb hb=>by cases hb;calc⟨_,g,rfl⟩)<|z _ _ _ .bi (.one (p:= .ref a) rfl) p
theorem vU{a:Addr}{l:List<|Dt×PV}{name:Str}{id:String}{P:Value->List PV->Prop}(h:O a=some (.aM l))(sl:Slot "dict" name id)(j:zn (.builtin id)=pure (.type "method_descriptor"))(p:P (.builtin id) [.ref a]):nL c (.ref a) name O P:= .mk λA B R s v pl Z S m z=>by rw[show v= .ref a from m];obtain⟨o,g,it,e,rfl,_⟩:=S.fm _ _ h;calc Hj ⟨_,g,rfl⟩ G0 sl j (λb hb=>by cases hb;calc⟨_,g,rfl⟩)<|z _ _ _ .bi (.one (p:= .ref a) rfl) p
theorem XM{ks vs:List Dt}{name:Str}{id:String}{P:Value->List PV->Prop}(sl:Slot "dict" name id)(l:zn (.builtin id)=pure (.type "method_descriptor"))(p:P (.builtin id) [.d (.aM ks vs)]):nL c (.d<|.aM ks vs) name O P:= .mk λA B R s v pl Z S h z=>by obtain⟨a,o,es,e,rfl,hs,m,j,hd,_⟩:=_root_.id h;have g:=S.fb _ _ m;calc Hj ⟨_,g,j.1⟩ G0 sl l (λb hb=>by cases hb;calc⟨_,g,j.2.1⟩)<|z _ _ _ .bi (.one h) p
theorem call_cls(P:jp c C)(L:iY c C "__init__" T)(h:∀a dx,O a=none->O dx=none->a≠dx->kP c k (.ref T) (.ref a::args) (upd (upd O dx<|.ns 0 λZ=>none) a<|.inst C dx) λp ah=>p= .d .none/\Q (.ref a) ah):kP c (k+1) (.ref C) args O Q:= .mk λA B R s vs r S U=>by
 obtain⟨hh,g,d,t,os⟩:=s;calc make_core (makes_of S.gy P.makes) (looks_findIn S.gy L.find) (λself=>bind_fn S.gy self L.fn) (.inl rfl) ?_;have N:=S.fresh;have j:=S.xE (o:=emptyDict) (m:= .ns 0 λZ=>none) rfl ⟨#[],0,rfl,by intro e he;simp at he,bS _,λx=>by show fR _ _ none<|nsFind #[] x;rw[show nsFind #[] x=none from rfl];trivial⟩;have I:=j.fresh;have D:=j.xE (o:=instObj C hh.objs.size) (m:= .inst C hh.objs.size) rfl rfl;dsimp only at j D N I;rw[hV] at D I;have H:hh.objs.size+1≠hh.objs.size:=OT _;have fa:O (hh.objs.size+1)=none:=by have:=I.2.1;unfold upd at this;rwa [if_neg H] at this
 refine lW ((h (hh.objs.size+1) hh.objs.size fa N.2.1 H).1 (A.under<|.builtin "type.__call__" ⟨.ref C::vs,[]⟩) B R _ (.ref (hh.objs.size+1)::vs) ?_ D ⟨_,_,rfl,rfl,U⟩) λr s' z=>?_
 .refine⟨r.handled,?_,?_⟩
  .show A.depth+1+k<=690;exact(aq 9710077936661697) r.depth
  .show A.units+1+8*k+60<=dP;exact(ax 0x25423f422f3b25423f422fc1) r.units
 .rcases r with e|(v|_|_|_)
  .exact z.elim
  all_goals first|exact z.elim|skip
  obtain⟨B',ah,Y,l,X,J,rfl,q⟩:=z;calc⟨J,B',ah,.ref _,l,X,rfl,q⟩
end
section
variable{prog:eN}{w:bR}{A:cj}{E:Value->aA->Prop}{s:aA}
structure gP(w:bR)(g:Look)(ks:List Dt)(es:Array en):Prop where
 a:aT w g ks (es.toList.map (·.key))
 b:es.toList.map (·.hash)=mB w ks
 c:ks.Nodup
 d:Dt.keys ks=true
 e:Dt.dG ks<=6
theorem gP.size(D:gP w g ks es):es.size=ks.length:=by simpa using D.a.length
theorem gP.at(D:gP w g ks es){i:Nat}{e:en}(h:es[i]? =some e):∃y,ks[i]? =some y/\be w g y e.key/\e.hash=ig w y/\y.key=true/\y.depth<=6:=by
 have hi:i<ks.length:=by rw[<-D.size];exact(rS.mp h).1
 calc ai (⟨_,cR hi⟩:∃y,ks[i]? =some y) λy hy=>?_;calc ai (D.a.get hy) λu j=>?_;have l:=j.1;have m:es.toList[i]? =some e:=by rw[fj];exact h
 rw[dm,m] at l;obtain rfl:e.key=u:=by simpa using l
 calc⟨y,km hy j.2 ?_ (Dt.zL.mp D.d y<|fZ hy)<|aL (Dt.zP<|fZ hy) D.e⟩;have p:=congrArg (·[i]?) D.b;simp only[xO,dm,m,hy,wE] at p;calc gn p
theorem gP.uniq(D:gP w g ks es){i j:Nat}(hi:ks[i]? =some x)(hj:ks[j]? =some x):i=j:=(OJ (dJ.mp hi).1 D.c).mp<|hi.trans hj.symm
theorem JB{es:Array en}{h:Int}{i:Nat}:i∈sf es.size (λi=>es[i]?.map (·.hash)) h↔∃e,es[i]? =some e/\e.hash=h:=by
 rw[gK];constructor
 .intro g;have h1:=g.1;have l:=g.2
  have l:es[i]?.map (·.hash)=some h:=by simpa using l
  calc ai (jX.mp l) λe g=>?_;have hh:=g.2;exact⟨e,g.1,hh⟩
 .intro g;calc ai g λe j=>?_;have he:=j.1;calc⟨eM.mpr (rS.mp he).1,by simp[he,j.2]⟩
theorem Ua(n:Nat)(f:Nat->Option Int)(h:Int):(sf n f h).Nodup:=by calc GX.sublist yM
noncomputable def rs(ks:List Dt)(x:Dt)(rest:List Nat)(g:Option Nat):Prop:=rest.Nodup/\match g with
  |none=>∀j,ks[j]? =some x->j∈rest
  |some j=>ks[j]? =some x/\j∉rest
theorem Sc{x:Dt}{v:Value}{st:List Value}{Q:Bool->aA->Prop}(k:x.key=true)(hd:x.depth<=8)(r:be w s.heap.get? x v)(j:∀u∈st,∃y:Dt,y.key=true/\y.depth<=8/\be w s.heap.get? y u)(h:Q false s):ao (aO prog w) A (tableMayTell v st) Q E s:=by
 unfold tableMayTell;refine qt (λZ=>ap h) λZ=>?_
 .refine af<|AO 8 x k hd r<|cw rfl<|af<|Cg _ (λrest q s'=>s'=s/\q=(none,())/\∀u∈rest,∃y:Dt,y.key=true/\y.depth<=8/\be w s.heap.get? y u) _ ?_ ?_ _ _<|aR rfl rfl j
  .intro u rest q s' g;calc aN g λl m p=>?_;clear g;clear j r h;subst l;subst m;exact ai (p u dC) λy g=>aN g λz C D=>af<|AO 8 y z C D<|cw rfl<|ap<|aR rfl rfl λv H=>p v<|dw _ H
  .intro q s' g;calc aN g λl m Z=>?_;clear g;clear j r;subst l;subst m;calc ap h
inductive Fp {α β γ:Type} (v:γ->β) (I:List α->γ->Prop) (Q:β->aA->Prop) (s:aA) (rest:List α):ForInStep β->aA->Prop
 |yield (g:γ) (h:I rest g):Fp v I Q s rest (.yield<|v g) s
 |done (b:β) {s':aA} (q:Q b s'):Fp v I Q s rest (.done b) s'
theorem Iy(v:l->p)(I:List α->l->Prop)(g:l)(e:b=v g)(h:I xs g)(step:∀x rest g,I (x::rest) g->ao M A (f x<|v g) (Fp v I Q s rest) E s)(fin:∀g,I [] g->Q (v g) s):ao M A (forIn xs b f) Q E s:=by
 refine Cg f (λrest b s'=>∃g,(v g,s)=(b,s')/\I rest g) Q ?_ ?_ xs b ⟨g,e▸rfl,h⟩
 .refine λx rest b s' q=>ai q λg q=>?_;have j:=q.1;have h:=q.2
  cases j;calc aS (step x rest g h) (λr s' m=>?_) λZ Z x=>x;cases m with
  |yield g h=>calc⟨g,rfl,h⟩
  |done b q=>exact q
 .refine λb s' q=>ai q λg q=>aw q λj h=>?_;cases j;calc fin g h
theorem Be{d:Addr}{o:Obj}{es:Array en}{ep:Nat}{ks:List Dt}{x:Dt}{v:Value}{Q:Option Nat->aA->Prop}(hu:A.units+12<dP)(T:s.heap.get? d=some o)(hd:o.data= .dict es ep)(D:gP w s.heap.get? ks es)(U:x.key=true)(dx:x.depth<=6)(rx:be w s.heap.get? x v)(J:x∉ks->Q none s)(r:∀j,ks[j]? =some x->Q (some j) s):ao (aO prog w) A (dictFind d v<|ig w x) Q E s:=by
 have fin:∀l,rs ks x [] l->Q l s:=λl C=>by
  cases l with
  |none=>calc J λhm=>by calc ai (gk.mp hm) λj hj=>?_;calc absurd (C.2 j hj)<|wB
  |some j=>exact r j C.2.1
 have a0:rs ks x (sf es.size (λi=>es[i]?.map (·.hash))<|ig w x) none:=⟨Ua _ _ _,λj hj=>by
  rw[JB];have z:j<es.size:=by rw[D.size];exact(dJ.mp hj).1
  calc⟨es[j],ct z,?_⟩;calc ai (D.at (ct z)) λy g=>bV g λhy _ hh _=>?_;rw[hj] at hy;cases hy;calc hh⟩
 have step:∀{i:Nat} {rest:List Nat} {l:Option Nat} {y:Dt},rs ks x (i::rest) l->ks[i]? =some y->y≠x->rs ks x rest l:=by
  intro i rest l y C hy a3;calc⟨(iM.mp C.1).2,?_⟩;cases l with
  |none=>
    intro j hj;rcases dD.mp (C.2 j hj) with rfl|h
    .rw[hy] at hj;cases hj;exact absurd rfl a3
    .exact h
  |some j=>exact⟨C.2.1,λh=>C.2.2<|dw _ h⟩
 have L:∀{i:Nat} {rest:List Nat} {l:Option Nat},rs ks x (i::rest) l->ks[i]? =some x->l=none/\rs ks x rest (some i):=by
  intro i rest l C hy;cases l with
  |none=>calc⟨rfl,(iM.mp C.1).2,hy,(iM.mp C.1).1⟩
  |some j=>exact absurd (D.uniq hy C.2.1▸dC) C.2.2
 have X:∀i∈sf es.size (λi=>es[i]?.map (·.hash)) (ig w x),∃e y,es[i]? =some e/\e.hash=ig w x/\ks[i]? =some y/\be w s.heap.get? y e.key/\y.key=true/\y.depth<=6:=λi hi=>by calc ai (JB.mp hi) λe g=>?_;have he:=g.1;have hh:=g.2;exact ai (D.at he) λy g=>fi g λhy H _ I N=>bv e y<|tG he hh hy H I N
 have a5:∀u∈(sf es.size (λi=>es[i]?.map (·.hash))<|ig w x).filterMap (λi=>es[i]?.map (·.key)),∃y:Dt,y.key=true/\y.depth<=8/\be w s.heap.get? y u:=by
  calc λu Y=>ai (Oy.mp Y) λi g=>?_;have hm:=g.2;calc aE (X i g.1) λe y g=>gS g λhe _ _ H I N=>?_;rw[he] at hm;obtain rfl:e.key=u:=by simpa using hm
  exact⟨y,aR I ((aB 150039829745) N) H⟩
 have walk:ao (aO prog w) A (dictWalkPlain d v (ig w x) es (sf es.size (λi=>es[i]?.map (·.hash))<|ig w x)) Q E s:=by
  refine af<|Iy (λ_:Unit=>(none,())) (λrest _=>rs ks x rest none/\∀i∈rest,i∈sf es.size (λi=>es[i]?.map (·.hash)) (ig w x)) () rfl ⟨a0,λ_ h=>h⟩ ?_<|λ_ h=>ap<|fin none h.1
  .intro i rest _ g;have C:=g.1;have q:=g.2;clear g;calc aE (X i<|q i dC) λe y g=>gS g λhe hh hy H I N=>?_;rw[he];dsimp only;calc fM (decide_eq_true<|by simpa using hh)<|af<|se T hd<|af<|th I U ((aV 0x7a415f5317a429f121cf521cf3) hu dx N) H rx<|af<|se T hd<|cw (decide_eq_false<|kL) ?_;by_cases p:y=x
   .rw[decide_eq_true p];exact fM rfl<|af<|fq<|ap<|.done _<|ap<|r i<|p▸hy
   .rw[decide_eq_false p];exact cw rfl<|af<|fq<|ap<|.yield () ⟨step C hy p,λj hj=>q j<|dw _ hj⟩
 have S:∀a,v= .ref a->¬(es.any λe=>e.key==v&&e.hash !=ig w x)=true:=by intro a e0;rw[<-O9,GZ];intro g;calc ai g λe a6=>aw a6 λa1 hc=>ai (gk.mp a1) λi hi=>?_;rw[fj] at hi;calc ai (D.at hi) λy g=>fi g λhy H hh I _=>?_;simp only[tX,beq_iff_eq,bne_iff_ne,ne_eq] at hc;rw[hc.1] at H;exact hc.2<|by rw[hh,be.Bn I U H rx]
 have Z:∀n t,x= .str n->v= .str n t->ao (aO prog w) A (foundByValue d v es n) Q E s:=by
  rintro n t rfl rfl;unfold foundByValue;cases hf:es.findIdx? (λe=>e.key.isStr n) with
  |none=>
   calc ap<|J λhm=>ai (gk.mp hm) λj hj=>?_;have z:j<es.size:=by rw[D.size];exact(dJ.mp hj).1
   calc ai (D.at (ct z)) λy g=>aN g λhy H _=>?_;rw[hj] at hy;cases hy;obtain⟨u,Y⟩:=H;have:=Array.findIdx?_eq_none_iff.mp hf es[j]<|Array.getElem_mem z;rw[Y] at this;simp[Pt] at this
  |some i=>
   dsimp only;calc ai (Array.findIdx?_eq_some_iff_getElem.mp hf) λz g=>?_;have hp:=g.1;rw[ct z];refine ai (D.at (ct z)) λy g=>fi g λhy H _ I N=>?_
   have p:y= .str n:=by
    cases hk:es[i].key with
    |str m u=>
     rw[hk] at hp H;have:m=n:=by simpa[Pt] using hp
     clear hf hp S walk g;subst this;calc be.Bn I U H ⟨u,rfl⟩
    |_=>rw[hk] at hp;simp[Pt] at hp
   clear N g;subst p;calc af<|se T hd<|af<|th I U ((cK 0x75415f33175429f121cf3700fa) hu dx z) H rx<|af<|se T hd ?_;rw[if_neg (kL),decide_eq_true rfl];exact fM rfl<|af<|fq<|ap<|r i hy
 calc co<|af<|rZ T hd ?_;apply tl
 case main=>
  calc λkey=>Tf (P:=λc=>ao (aO prog w) A c Q E s) (λn t e=>?_) key;by_cases ha:(es.all λe=>isExactStrKey e.key)=true
  .refine fM (decide_eq_true ha) ?_;exact Z n t (Nb U<|e▸rx) e
  .refine cw (decide_eq_false ha) ?_;exact key
 case pr=>
 by_cases hc:(v::(sf es.size (λi=>es[i]?.map (·.hash))<|ig w x).filterMap (λi=>es[i]?.map (·.key))).all carriedByValue=true
 .refine fM (decide_eq_true hc) ?_;exact walk
 calc cw (decide_eq_false hc) ?_;apply tl
 case main=>
  calc λkey=>Ri (P:=λc=>ao (aO prog w) A c Q E s) (λa e=>cw (decide_eq_false<|S a e) ?_) key;exact key
 case pr=>
 apply tl
 case main=>
  exact λkey=>qt (λ_=>af<|ap<|cw rfl key) λ_=>af<|Sc U ((aB 150039829745) dx) rx a5<|cw rfl key
 case pr=>
 refine af<|Iy (λl=>(none,l)) (λrest l=>rs ks x rest l/\∀i∈rest,i∈sf es.size (λi=>es[i]?.map (·.hash)) (ig w x)) none rfl ⟨a0,λ_ h=>h⟩ ?_<|λl h=>ap<|fin l h.1
 .intro i rest l g;have C:=g.1;have q:=g.2;clear g;calc aE (X i<|q i dC) λe y g=>gS g λhe hh hy H I N=>?_;rw[he];dsimp only;calc fM (decide_eq_true<|by simpa using hh)<|af<|se T hd<|af<|th I U ((aV 0x7a415f5317a429f121cf521cf3) hu dx N) H rx<|af<|se T hd<|cw (decide_eq_false<|kL) ?_;by_cases p:y=x
  .rw[decide_eq_true p];have a2:=(L C<|p▸hy);have g:=a2.1;clear C;subst g;exact af<|fq<|qt (λ_=>ap<|.done _<|ap<|r i<|p▸hy) λ_=>ap<|.yield (some i) ⟨a2.2,λj hj=>q j<|dw _ hj⟩
  .rw[decide_eq_false p];calc af<|fq<|ap<|.yield l ⟨step C hy p,λj hj=>q j<|dw _ hj⟩
end
section
section
variable{prog:eN}{w:bR}{A:cj}{E:Value->aA->Prop}{s:aA}{d:Addr}{o:Obj}{es:Array en}{ep:Nat}{ks:List Dt}{x:Dt}{v u:Value}
theorem Ez{Q:Option Value->aA->Prop}(p:A.units+12<dP)(q:s.heap.get? d=some o)(hd:o.data= .dict es ep)(D:gP w s.heap.get? ks es)(r:x.key=true)(dx:x.depth<=6)(z:be w s.heap.get? x v)(g:x∉ks->Q none {s with toks:=s.toks+fu x})(l:∀(j:Nat) (e:en),ks[j]? =some x->es[j]? =some e->Q (some e.val) {s with toks:=s.toks+fu x}):ao (aO prog w) A (CW d v) Q E s:=by
 unfold CW;calc co<|af<|xl x r ((ax 0x7543175429f121cf3) p dx) z<|af<|Be (s:={s with toks:=s.toks+fu x}) p q hd D r dx z (λh=>ap<|g h) λj hj=>?_;have m:j<es.size:=by rw[D.size];exact(dJ.mp hj).1
 have he:es[j]? =some es[j]:=ct m;calc af<|rZ (s:={s with toks:=s.toks+fu x}) q hd ?_;rw[he];calc ap<|l j _ hj he
theorem NA{Q:Unit->aA->Prop}(q:A.units+12<dP)(m:s.heap.get? d=some o)(hd:o.data= .dict es ep)(D:gP w s.heap.get? ks es)(r:x.key=true)(dx:x.depth<=6)(z:be w s.heap.get? x v)(p:es.size<=1000000)(g:x∉ks->Q () {s with heap:=s.heap.update d (Ci (·.push ⟨ig w x,v,u⟩)),toks:=s.toks+fu x})(l:∀j,ks[j]? =some x->Q () {s with heap:=s.heap.update d (Obj.mapDict (·.modify j λe=>{e with val:=u})),toks:=s.toks+fu x}):ao (aO prog w) A (dictSet d v u) Q E s:=by unfold dictSet;calc co<|af<|xl x r ((ax 0x7543175429f121cf3) q dx) z ?_;unfold dictSetHashed;calc co<|af<|Be (s:={s with toks:=s.toks+fu x}) q m hd D r dx z (λh=>af<|fq<|OD (hz:=by rw[dO];calc Q0 p) (s:={s with toks:=s.toks+fu x}) m hd<|g h) λj hj=>af<|fq<|af<|wpAny_updateDict (s:={s with toks:=s.toks+fu x}) m hd<|wpAny_point<|l j hj
theorem RI{Q:Value->aA->Prop}(r:A.units+12<dP)(m:s.heap.get? d=some o)(hd:o.data= .dict es ep)(D:gP w s.heap.get? ks es)(z:x.key=true)(dx:x.depth<=6)(C:be w s.heap.get? x v)(p:es.size<=1000000)(g:x∉ks->Q u {s with heap:=s.heap.update d (Ci (·.push ⟨ig w x,v,u⟩)),toks:=s.toks+fu x})(l:∀(j:Nat) (e:en),ks[j]? =some x->es[j]? =some e->Q e.val {s with toks:=s.toks+fu x}):ao (aO prog w) A (dictSetDefault d v u) Q E s:=by
 unfold dictSetDefault;refine co<|af<|xl x z ((ax 0x7543175429f121cf3) r dx) C<|af<|Be (s:={s with toks:=s.toks+fu x}) r m hd D z dx C (λh=>af<|fq<|af<|OD (hz:=by rw[dO];calc Q0 p) (s:={s with toks:=s.toks+fu x}) m hd<|ap<|g h) λj hj=>?_
 .have q:j<es.size:=by rw[D.size];exact(dJ.mp hj).1
  have he:es[j]? =some es[j]:=ct q;calc af<|rZ (s:={s with toks:=s.toks+fu x}) m hd ?_;rw[he];calc af<|fq<|ap<|l j _ hj he
theorem UZ{Q:Option en->aA->Prop}(q:A.units+12<dP)(p:s.heap.get? d=some o)(hd:o.data= .dict es ep)(D:gP w s.heap.get? ks es)(r:x.key=true)(dx:x.depth<=6)(z:be w s.heap.get? x v)(l:es.size<=1000000)(hm:x∈ks)(m:∀j e,ks[j]? =some x->es[j]? =some e->Q (some e) {s with heap:=s.heap.update d (Ci (·.eraseIdxIfInBounds j)),toks:=s.toks+fu x}):ao (aO prog w) A (Gz d v) Q E s:=by
 unfold Gz;calc co<|af<|xl x r ((ax 0x7543175429f121cf3) q dx) z<|af<|Be (s:={s with toks:=s.toks+fu x}) q p hd D r dx z (λh=>absurd hm h) λj hj=>?_;have g:j<es.size:=by rw[D.size];exact(dJ.mp hj).1
 have he:es[j]? =some es[j]:=ct g;calc af<|rZ (s:={s with toks:=s.toks+fu x}) p hd ?_;rw[he]
 exact af (OD (hz:=by rw[dO];calc Q0 l) (hf:=by
  show(es.eraseIdxIfInBounds j).size<=_;unfold Gv;split
  .rw[Array.size_eraseIdx];exact(aq 766914198443795) l g
  .exact(ax 189367965493) g<|by assumption) (s:={s with toks:=s.toks+fu x}) p hd (ap<|m j _ hj he))
end
noncomputable def dH(l:List<|Dt×PV)(x:Dt):Option PV:=(l.find? λe=>decide<|e.1=x).map (·.2)
noncomputable def dput(l:List<|Dt×PV)(x:Dt)(p:PV):List (Dt×PV):=if x∈l.map (·.1) then l.map (λe=>if e.1=x then(e.1,p) else e) else l++[(x,p)]
noncomputable def lQ(l:List<|Dt×PV)(x:Dt):List (Dt×PV):=l.filter λe=> !decide (e.1=x)
theorem wg{l:List<|Dt×PV}(g:(l.map (·.1)).Nodup){j:Nat}{x:Dt}{p:PV}(h:l[j]? =some (x,p)):dH l x=some p:=by
 unfold dH;induction l generalizing j with
 |nil=>simp at h
 |cons e r q=>
  rw[dK,iM] at g;cases j with
  |zero=>simp at h;clear g;subst h;simp
  |succ j=>
   have h':r[j]? =some (x,p):=by simpa using h
   have m:¬e.1=x:=λhh=>g.1 (by rw[hh];calc bb.mpr ⟨(x,p),fZ h',rfl⟩);rw[Cf,decide_eq_false m];calc q g.2 h'
theorem yy{l:List<|Dt×PV}{x:Dt}(h:x∉l.map (·.1)):dH l x=none:=by unfold dH;rw[GP.mpr,Ha];calc λe he g=>h<|bb.mpr ⟨e,he,of_decide_eq_true g⟩
theorem Ei{l:List<|Dt×PV}{x:Dt}:(dH l x).isSome=decide (x∈l.map (·.1)):=by
 by_cases h:x∈l.map (·.1)
 .rw[decide_eq_true h];unfold dH;rw[Option.isSome_map,O2];calc ai (bb.mp h) λe g=>?_;exact⟨e,g.1,by simp[g.2]⟩
 .rw[yy h,decide_eq_false h];rfl
theorem MW(l:List<|Dt×PV)(x:Dt)(p:PV):(dput l x p).map (·.1)=if x∈l.map (·.1) then l.map (·.1) else l.map (·.1)++[x]:=by
 unfold dput;split
 .rw[bg];apply gZ;intro e _;show(if e.1=x then(e.1,p) else e).1=e.1;split<;>rfl
 .exact cb ..
theorem WQ:∀{l:List<|Dt×PV} {j:Nat} {x:Dt} {q p:PV},(l.map (·.1)).Nodup->l[j]? =some (x,q)->l.map (λe=>if e.1=x then(e.1,p) else e)=l.modify j (λe=>(e.1,p)):=by
 intro m;induction m with
 |nil=>
  intro j x q p _ h;simp at h
 |cons e r D=>
  intro z;cases z with
  |zero=>
   intro x q p g h;rw[dK,iM] at g;simp at h;subst h;simp only[dK,if_true,List.modify_zero_cons,tZ,true_and];have:∀e∈r,(if e.1=x then(e.1,p) else e)=e:=λe he=>if_neg λhh=>g.1 (by rw[<-hh];calc bb.mpr ⟨e,he,rfl⟩);rw[gZ this];simp
  |succ j=>
   intro x q p g h;rw[dK,iM] at g;have h':r[j]? =some (x,q):=by simpa using h
   have C:¬e.1=x:=λhh=>g.1 (by rw[hh];calc bb.mpr ⟨(x,q),fZ h',rfl⟩);rw[dK,if_neg C,D g.2 h',List.modify_succ_cons]
theorem LZ:∀{l:List<|Dt×PV} {j:Nat} {x:Dt} {q:PV},(l.map (·.1)).Nodup->l[j]? =some (x,q)->lQ l x=l.eraseIdx j:=by
 intro m;induction m with
 |nil=>
  intro j x q _ h;simp at h
 |cons e r p=>
  intro z;cases z with
  |zero=>
   intro x q g h;rw[dK,iM] at g;simp at h;subst h;unfold lQ;rw[wC,decide_eq_true rfl];simp only[Bool.not_true,OC,if_false,List.eraseIdx_cons_zero];rw[List.filter_eq_self];intro e he;rw[decide_eq_false λhh=>g.1 (by rw[<-hh];calc bb.mpr ⟨e,he,rfl⟩)];rfl
  |succ j=>
   intro x q g h;rw[dK,iM] at g;have h':r[j]? =some (x,q):=by simpa using h
   have C:¬e.1=x:=λhh=>g.1 (by rw[hh];calc bb.mpr ⟨(x,q),fZ h',rfl⟩);have D:=p g.2 h';unfold lQ at D|-;rw[wC,decide_eq_false C];simp only[U6,if_true,List.eraseIdx_cons_succ];rw[D]
section
variable{c:Cx}{k:Nat}{V:Env}{O:al}{ρ:az}{B R:Look}{s:aA}
theorem Sat.aM(S:Sat c B O R s){a:Addr}{l:List<|Dt×PV}(h:O a=some (.aM l)):∃es e,s.heap.get? a=some {cls:= .type "dict",data:= .dict es e}/\gP c.w B (l.map (·.1)) es/\bC c.w B (l.map (·.2)) (es.toList.map (·.val)):=by obtain⟨o,g,es,e,rfl,h1,j,m,p,q,r⟩:=S.fm _ _ h;calc bv es e<|aR g ⟨h1,m,p,q,r⟩ j
theorem gP.mono{w:bR}{g j:Look}(h:g.le j){ks:List Dt}{es:Array en}(D:gP w g ks es):gP w j ks es:=⟨aT.mono h D.a,D.b,D.c,D.d,D.e⟩
theorem Sat.up(S:Sat c B O R s):B.le s.heap.get? :=λa o e=>S.fb a o e
theorem RM.DD{w:bR}{B:Look}{l:List<|Dt×PV}{es:Array en}{e:Nat}(D:gP w B (l.map (·.1)) es)(h:bC w B (l.map (·.2)) (es.toList.map (·.val))):RM w B (.aM l) {cls:= .type "dict",data:= .dict es e}:=⟨es,e,rfl,D.a,h,D.b,D.c,D.d,D.e⟩
theorem Sat.vr(S:Sat c B O R s){a:Addr}{m:MO}(h:O a=some m):(a==si)=false:=by calc ai c.sm λo g=>?_;have:=S.bm _ _<|S.kb _ _ g;rw[beq_eq_false_iff_ne];rintro rfl;rw[h] at this;calc cU this
theorem Rq{a b:List Dt}:Dt.keys (a++b)=(Dt.keys a&&Dt.keys b):=by
 induction a with
 |nil=>rfl
 |cons x xs g=>calc(congrArg (x.key&&·) g).trans (Bool.and_assoc ..).symm
theorem bC.modify{w:bR}{B:Look}{q:PV}{u:Value}(D:RV w B q u):∀{l:List PV} {vs:List Value} (j:Nat),bC w B l vs->bC w B (l.modify j λZ=>q) (vs.modify j λZ=>u):=by
 intro m;induction m with
 |nil=>
  intro vs j h;rw[show vs=[] from h];cases j<;>calc rfl
 |cons p I H=>
  intro vs;intro r;cases r with
  |zero=>
   intro z;obtain⟨v,g,e,h,hs⟩:=z;rw[e];calc⟨u,g,rfl,D,hs⟩
  |succ j=>
   intro C;obtain⟨v,g,e,h,hs⟩:=C;rw[e];calc⟨v,_,rfl,h,H j hs⟩
theorem bC.erase{w:bR}{B:Look}:∀{l:List PV} {vs:List Value} (j:Nat),bC w B l vs->bC w B (l.eraseIdx j) (vs.eraseIdx j):=by
 intro g;induction g with
 |nil=>
  intro vs j h;rw[show vs=[] from h];cases j<;>calc rfl
 |cons p D C=>
  intro vs;intro m;cases m with
  |zero=>
   intro q;obtain⟨v,r,e,h,hs⟩:=q;rw[e];calc hs
  |succ j=>
   intro z;obtain⟨v,r,e,h,hs⟩:=z;rw[e];calc⟨v,_,rfl,h,C j hs⟩
theorem aT.erase{w:bR}{B:Look}:∀{l:List Dt} {vs:List Value} (j:Nat),aT w B l vs->aT w B (l.eraseIdx j) (vs.eraseIdx j):=by
 intro g;induction g with
 |nil=>
  intro vs j h;rw[show vs=[] from h];cases j<;>calc rfl
 |cons p D C=>
  intro vs;intro m;cases m with
  |zero=>
   intro q;obtain⟨v,r,e,h,hs⟩:=q;rw[e];calc hs
  |succ j=>
   intro z;obtain⟨v,r,e,h,hs⟩:=z;rw[e];calc⟨v,_,rfl,h,C j hs⟩
theorem Jz{α q:Type}(f:α->q)(g:α->α)(h:∀x,f (g x)=f x):∀(l:List α) (j:Nat),(l.modify j g).map f=l.map f:=by
 intro m;induction m with
 |nil=>
  intro j;simp
 |cons x l r=>
  intro p;cases p with
  |zero=>
   simp[h]
  |succ j=>
   simp[r j]
theorem Ks{α q:Type}(f:α->q)(g:α->α)(b:q)(h:∀x,f (g x)=b):∀(l:List α) (j:Nat),(l.modify j g).map f=(l.map f).modify j λZ=>b:=by
 intro m;induction m with
 |nil=>
  intro j;simp
 |cons x l r=>
  intro p;cases p with
  |zero=>
   simp[h]
  |succ j=>
   simp[r j]
theorem wc{α m:Type}(f:α->m):∀(l:List α) (j:Nat),(l.eraseIdx j).map f=(l.map f).eraseIdx j:=by
 intro g;induction g with
 |nil=>
  calc λj=>rfl
 |cons x l p=>
  intro h;cases h with
  |zero=>
   calc rfl
  |succ j=>
   simp[p j]
theorem DB(es:Array en)(j:Nat):(es.eraseIdxIfInBounds j).toList=es.toList.eraseIdx j:=by
 unfold Gv;split
 .simp
 .rw[H0];simp;calc(aq 36820755)<|by assumption
theorem Sat.dput(S:Sat c B O R s){a:Addr}{l:List<|Dt×PV}(h:O a=some (.aM l)){x:Dt}{v u:Value}{p:PV}(I:x.key=true)(dx:x.depth<=6)(J:be c.w B x v)(z:RV c.w B p u):∀es e,s.heap.get? a=some {cls:= .type "dict",data:= .dict es e}->gP c.w B (l.map (·.1)) es->bC c.w B (l.map (·.2)) (es.toList.map (·.val))->(x∉l.map (·.1)->Sat c B (upd O a<|.aM<|dput l x p) R {s with heap:=s.heap.update a (Ci (·.push ⟨ig c.w x,v,u⟩))})/\(∀j,(l.map (·.1))[j]? =some x->Sat c B (upd O a<|.aM<|dput l x p) R {s with heap:=s.heap.update a (Obj.mapDict (·.modify j λe=>{e with val:=u}))}):=by
 refine λes e C D H=>⟨λm=>?_,λj hj=>?_⟩
 .refine S.turn h (dA ..) (fK _ C rfl)<|RM.DD ?_ ?_
  .have hk:=MW l x p;rw[if_neg m] at hk;rw[hk];refine⟨?_,?_,kg D.c m,?_,?_⟩
   .simp only[kH,cb];exact aT.append D.a ⟨v,[],rfl,J,rfl⟩
   .simp only[kH,cb];rw[D.b,xO,xO,cb];rfl
   .rw[Rq,D.d];show(Dt.key _&&true)=true;rw[I];rfl
   .refine Dt.My λd hd=>?_;rcases ca.mp hd with hd|hd
    .exact aL (Dt.zP hd) D.e
    .simp at hd;subst hd;exact dx
  .unfold Internal.dput;rw[if_neg m];simp only[kH,cb];exact bC.append H ⟨u,[],rfl,z,rfl⟩
 .have hm:x∈l.map (·.1):=fZ hj
  obtain⟨q,L⟩:∃q,l[j]? =some (x,q):=by rw[dm] at hj;calc ai (jX.mp hj) λr g=>?_;have h1:=g.1;have N:=g.2;clear g;obtain⟨y,q⟩:=r;exact⟨q,by rw[h1,<-N]⟩
  refine S.turn h (dA ..) (fK _ C rfl)<|RM.DD ?_ ?_
  .have hk:=MW l x p;rw[if_pos hm] at hk;rw[hk];refine⟨?_,?_,D.c,D.d,D.e⟩
   .simp only[GN];rw[Jz (λe:en=>e.key) (λe:en=>{e with val:=u}) (λZ=>rfl)];exact D.a
   .simp only[GN];rw[Jz (λe:en=>e.hash) (λe:en=>{e with val:=u}) (λZ=>rfl)];exact D.b
  .unfold Internal.dput;rw[if_pos hm,WQ D.c L];simp only[GN];rw[Ks (λe:en=>e.val) (λe:en=>{e with val:=u}) u (λZ=>rfl),Ks (λe:Dt×PV=>e.2) (λe:Dt×PV=>(e.1,p)) p (λZ=>rfl)];calc bC.modify z j H
end
end
section
variable{c:Cx}{k:Nat}{V:Env}{O:al}{ρ:az}
theorem be.isTup(up:B.le h.get?)(r:be w B (.tup l) v):∃a items,v= .ref a/\G7 h a items/\aT w B l items.toList:=by obtain⟨a,o,it,e,rfl,g,hc,hd,j⟩:=r;calc bv a it<|aR rfl ⟨o,up _ _ g,hc,e,hd⟩ j
theorem be.mT{B:Look}{h:Heap}{v:Value}(up:B.le h.get?)(r:be w B (.lst l) v):∃a items,v= .ref a/\h.IsList a items/\aT w B l items.toList:=by obtain⟨a,o,it,e,rfl,g,hc,hd,j⟩:=r;calc bv a it<|aR rfl ⟨o,up _ _ g,hc,e,hd⟩ j
theorem RV.isTup(up:B.le h.get?)(r:RV w B (.tp l) v):∃a items,v= .ref a/\G7 h a items/\bC w B l items.toList:=by obtain⟨a,o,it,e,rfl,g,hc,hd,j⟩:=r;calc bv a it<|aR rfl ⟨o,up _ _ g,hc,e,hd⟩ j
section
variable{M:oh}{A:cj}{E:Value->aA->Prop}{s:aA}
theorem Eb{prog:eN}{w:bR}{j g:Expr}{o i:Value}{T id:String}{vs:List Value}{Q:Value->aA->Prop}(p:s.TypeIs o T)(q:CK (.type T) "__getitem__"=pure (some<|.builtin id))(hs:PR g false o i=operate vs (uD o i))(h:ao (aO prog w) A (uD o i) Q E s):ao (aO prog w) A (subscriptTail j g o i) Q E s:=by
 calc af ?_;rw[getitemInPython_of_ne p.not_modules];calc af<|pb p q ?_;have fin:ao (aO prog w) A (PR g false o i) (λr l=>ao (aO prog w) A (letTemporaryGo j o r>>=λZ=>pure r) Q E l) E s:=by rw[hs];exact Ji<|aS h (λr l m=>af<|R8<|ap m) λZ Z x=>x
 first
  |calc ap<|af fin
  |calc af<|ap<|af fin
  |calc af fin
end
inductive LI (va:Value) (P:Prop) (s:aA):Prop
 |mk (T id:String) (h:s.TypeIs va T) (e:CK (.type T) "__getitem__"=pure (some<|.builtin id)) (p:P)
structure tI(c:Cx)(k:Nat)(a b:PV)(O:al)(Q:PV->al->Prop):Prop where
 go:∀A B R s va vb,cP k A->Sat c B O R s->RV c.w B a va->RV c.w B b vb->LI va (ao (aO c.prog c.w) A (uD va vb) (gc c Q B R) EF s) s
@[reducible] noncomputable def VT (c:Cx) (k:Nat) (a:PV) (Q:PV->al->Prop):PV->al->Prop:=λb O=>tI c k a b O Q
@[reducible] noncomputable def Ze (c:Cx) (k:Nat) (V:Env) (ρ:az) (i:Expr) (Q:PV->al->Prop):PV->al->Prop:=λa O=>WE c k V ρ i O<|VT c k a Q
theorem jA(hs:∀o i,PR g false o i=operate [o,i] (uD o i))(h:WE c k V ρ j O<|Ze c k V ρ g Q):WE c k V ρ (.Subscript j g Y) O Q:= .mk λA B R s r S L=>by calc Qd<|aS (h.1 A B R s r S L) (λZ s₁ h₁=>?_) λ_ _ x=>x;obtain⟨l,P,a,l₁,m,p,z⟩:=h₁;calc aS (z.1 A l R s₁ r m<|L.mono l₁) (λvb s₂ C=>?_) λ_ _ x=>x;obtain⟨D,U,b,l₂,H,I,J⟩:=C;obtain⟨T,id,hT,hl,q⟩:=J.1 A D R s₂ Z vb r H (p.mono l₂) I;calc Eb hT hl (hs _ _)<|aS q (λv X N=>N.up<|Look.le_trans l₁ l₂) λ_ _ x=>x
theorem JK(h0:0<=i)(h:i.toNat<n):seqIndex? i n=some i.toNat:=by unfold seqIndex?;rw[if_neg (sh.mpr h0),if_pos (iu.mpr ⟨decide_eq_true h0,decide_eq_true<|(Px h0).mp h⟩)]
theorem eY(h0:0<=i)(hi:i<2^62)(m:l[i.toNat]? =some x)(q:Q (.d x) O):tI c k (.d<|.tup l) (.d<|.int i) O Q:= .mk λA B R s H I r S p D=>by calc aE (be.isTup S.up p) λa items g=>aN g λh z C=>?_;clear g;clear p;subst h;obtain⟨t,rfl⟩:=D;calc ai (C.get m) λu g=>?_;have j:i.toNat<l.length:=(dJ.mp m).1;calc⟨"tuple",_,z.typeIs,BV.lookup,PyProof.Rows.getItem_tuple z (Ja h0) (zX hi) (JK h0<|by rw[<-cu];calc Q6 C.length j) (by rw[<-fj];calc g.1) ⟨B,O,.d x,Look.le_refl B,S,g.2,q⟩⟩
theorem YM(h0:0<=i)(hi:i<2^62)(p:l[i.toNat]? =some x)(q:Q (.d x) O):tI c k (.d<|.lst l) (.d<|.int i) O Q:= .mk λA B R s D H r S j z=>by calc aE (be.mT S.up j) λa items g=>aN g λh m C=>?_;clear g;clear j;subst h;obtain⟨t,rfl⟩:=z;calc ai (C.get p) λu g=>?_;calc⟨"list",_,m.typeIs,Oe.lookup,U8 m h0 (zX hi) (by rw[<-fj];calc g.1) ⟨B,O,.d x,Look.le_refl B,S,g.2,q⟩⟩
theorem Sat.lst(S:Sat c B O R s)(h:O a=some (.lst l)):∃items e,s.heap.get? a=some {cls:= .type "list",data:= .seq items e}/\bC c.w B l items.toList:=by obtain⟨o,g,it,e,rfl,j⟩:=S.fm _ _ h;calc bv it e ⟨g,j⟩
theorem li(j:O a=some (.lst l))(h0:0<=i)(hi:i<2^62)(m:l[i.toNat]? =some x)(q:Q x O):tI c k (.ref a) (.d<|.int i) O Q:= .mk λA B R s p I r S z C=>by calc aE (S.lst j) λitems e g=>aw g λD H=>?_;obtain⟨t,rfl⟩:=C;rw[show p= .ref a from z];calc ai (H.get m) λu g=>?_;have h:s.heap.IsList a items:=⟨_,D,rfl,e,rfl⟩;calc⟨"list",_,h.typeIs,Oe.lookup,U8 h h0 (zX hi) (by rw[<-fj];calc g.1) ⟨B,O,x,Look.le_refl B,S,g.2,q⟩⟩
theorem Ee(h0:0<=i)(hi:i<2^62)(h:x.cps[i.toNat]? =some j)(q:Q (.d<|.str ⟨#[j]⟩) O):tI c k (.d<|.str x) (.d<|.int i) O Q:= .mk λA B R s p z r S l m=>by
 obtain⟨t,rfl⟩:=l;obtain⟨u,rfl⟩:=m;have g:i.toNat<x.cps.size:=(rS.mp h).1;refine⟨"str",_,HQ s x t,F6.lookup,PySem.P.getItem_str (Bool.or_eq_false_iff.mpr ⟨decide_eq_false<|sh.mpr<|Ja h0,decide_eq_false<|PP.mpr<|zX hi⟩) ?_ ⟨B,O,.d<|.str ⟨#[j]⟩,Look.le_refl B,S.toks _,⟨_,rfl⟩,q⟩⟩
 .show(seqIndex? i x.cps.size).bind _=_;rw[JK h0 g];calc h
theorem Mo{B R:Look}{s:aA}{A:cj}{d:Addr}{o:Obj}{es:Array en}{ep:Nat}{ks:List Dt}{x:Dt}{v:Value}{Q:Value->aA->Prop}(m:A.units+13<dP)(l:s.heap.get? d=some o)(hc:o.cls= .type "dict")(hd:o.data= .dict es ep)(D:gP c.w s.heap.get? ks es)(p:x.key=true)(dx:x.depth<=6)(q:be c.w s.heap.get? x v)(hm:x∈ks)(h:∀(j:Nat) (e:en),ks[j]? =some x->es[j]? =some e->Q e.val {s with toks:=s.toks+fu x}):ao (aO c.prog c.w) A (uD (.ref d) v) Q EF s:=by
 have g:s.TypeIs (.ref d) "dict":=⟨o,l,hc⟩;unfold uD
 try with_reducible refine co ?_
 calc af<|He g (by decide) ?_;calc af<|jW (name:=ak "__getitem__") g Hh<|eL Hh g entry_dict_getitem ?_<|args_dict_getitem _ _;show ao _ _ (CW d v>>=_) _ _ s;calc af<|Ez (by show A.units+1+12<dP;calc(aq 0x73429fb73435f1) m) l hd D p dx q (λr=>absurd hm r) λj e hj he=>ap ⟨e.val,rfl,ap<|h j e hj he⟩
theorem pL{a:Addr}{l:List<|Dt×PV}{x:Dt}{p:PV}{Q:PV->al->Prop}(H:O a=some (.aM l))(I:x.key=true)(dx:x.depth<=6)(hp:dH l x=some p)(q:Q p O):tI c k (.ref a) (.d x) O Q:= .mk λA B R s J X r S L N=>by
 calc aE (S.aM H) λes e g=>aN g λm D P=>?_;rw[show J= .ref a from L];refine⟨"dict",_,⟨_,m,rfl⟩,Hh.lookup,Mo (B:=B) (R:=R) (by have:=r.u;calc(aq 0x73435f173410f1) this) m rfl rfl (D.mono S.up) I dx (be.mono S.up N) ?_ λj T hj he=>?_⟩
 .have:=Ei (l:=l) (x:=x);rw[hp] at this;simpa using this
 .obtain⟨y,hy⟩:∃y,l[j]? =some (x,y):=by
   rw[dm] at hj;calc ai (jX.mp hj) λg h=>?_;have h1:=h.1;have U:=h.2;clear h;obtain⟨z,q⟩:=g;exact⟨q,by rw[h1,<-U]⟩
  have:=wg D.c hy;rw[hp] at this;cases this;calc ai (P.get (i:=j) (d:=p)<|by rw[dm,hy];rfl) λu g=>?_;have C:=g.1;rw[dm,fj,he] at C;obtain rfl:T.val=u:=by simpa using C
  calc⟨B,O,p,Look.le_refl B,S.toks _,g.2,q⟩
theorem be.aM{w:bR}{B:Look}{ks vs:List Dt}{v:Value}(r:be w B (.aM ks vs) v):∃a o es e,v= .ref a/\a≠si/\B a=some o/\o.ExactDict/\o.data= .dict es e/\gP w B ks es/\aT w B vs (es.toList.map (·.val)):=by obtain⟨a,o,es,e,h1,j,l,m,p,q,z,C,D,g,h⟩:=r;calc oG a o es e<|zU h1 j l m p ⟨q,C,D,g,h⟩ z
noncomputable def qa(ks vs:List Dt)(x:Dt):Option Dt:=((ks.zip vs).find? λe=>decide<|e.1=x).map (·.2)
theorem Fy{ks vs:List Dt}(g:ks.Nodup){j:Nat}{x y:Dt}(h:ks[j]? =some x)(hy:vs[j]? =some y):qa ks vs x=some y:=by
 unfold qa;induction ks generalizing vs j with
 |nil=>simp at h
 |cons e r m=>
  cases vs with
  |nil=>simp at hy
  |cons z zs=>
   rw[iM] at g;cases j with
   |zero=>simp at h hy;subst h;clear m;subst hy;simp
   |succ j=>
    have h':r[j]? =some x:=by simpa using h
    have l:¬e=x:=λhh=>g.1 (by rw[hh];calc fZ h');rw[tQ,Cf,decide_eq_false l];calc m g.2 h'<|by simpa using hy
theorem TL{ks vs:List Dt}{x y:Dt}{Q:PV->al->Prop}(J:x.key=true)(dx:x.depth<=6)(hm:x∈ks)(hp:qa ks vs x=some y)(q:Q (.d y) O):tI c k (.d<|.aM ks vs) (.d x) O Q:= .mk λA B R s T U r S p L=>by
 calc jV (be.aM p) λa o es e g=>qY g λl Z N C hd D H=>?_;clear g;clear p;subst l;have h:=S.fb _ _ N;calc⟨"dict",_,⟨_,h,C.1⟩,Hh.lookup,Mo (B:=B) (R:=R) (by have:=r.u;calc(aq 0x73435f173410f1) this) h C.1 hd (D.mono S.up) J dx (be.mono S.up L) hm λj P hj he=>?_⟩;have m:j<es.size:=(rS.mp he).1;calc ai (⟨_,cR<|by rw[<-H.length];simpa using m⟩:∃z,vs[j]? =some z) λz hz=>?_;have:=Fy D.c hj hz;rw[hp] at this;cases this;calc ai (H.get hz) λu g=>?_;have I:=g.1;rw[dm,fj,he] at I;obtain rfl:P.val=u:=by simpa using I
 calc⟨B,O,.d y,Look.le_refl B,S.toks _,g.2,q⟩
structure wZ(c:Cx)(k:Nat)(a:PV)(lo hi:Option Nat)(O:al)(Q:PV->al->Prop):Prop where
 go:∀A B R s va sl (vl vu:Value),cP k A->Sat c B O R s->RV c.w B a va->(match lo with|none=>vl= .none|some n=>∃t,vl= .int n t)->(match hi with|none=>vu= .none|some n=>∃t,vu= .int n t)-> s.heap.get? sl=some {cls:= .type "slice",data:= .fields #[vl,vu,.none]}-> LI va (ao (aO c.prog c.w) A (uD va<|.ref sl) (gc c Q B R) EF s) s
@[reducible] noncomputable def NF (c:Cx) (k:Nat) (g hi:Option Nat) (Q:PV->al->Prop):PV->al->Prop:=λa O=>wZ c k a g hi O Q
theorem Ap(h:WE c k V ρ g O<|NF c k (some n) none Q):WE c k V ρ (.Subscript g (.Slice (some<|.Constant (.int n) U p) none none X) I) O Q:= .mk λA B R s r S L=>by calc Qd<|aS (h.1 A B R s r S L) (λJ s₁ h₁=>wpAny_Slice ?_) λZ Z x=>x;obtain⟨j,D,a,l₁,l,m,z⟩:=h₁;show ao _ _ (mkInt n) _ _ s₁;calc HN ?_;rw[evalPart_none];calc ap<|ap ?_;obtain⟨T,id,N,P,q⟩:=z.1 A j R _ J s₁.heap.objs.size (.int n s₁.toks) .none r ((l.toks<|s₁.toks+1).push {cls:= .type "slice",data:= .fields #[.int n s₁.toks,.none,.none]}) m ⟨_,rfl⟩ rfl<|dy _ rfl;calc Eb N P rfl<|aS q (λv H C=>C.up l₁) λZ Z x=>x
theorem W6(h:WE c k V ρ g O<|NF c k none (some n) Q):WE c k V ρ (.Subscript g (.Slice none (some<|.Constant (.int n) U p) none X) I) O Q:= .mk λA B R s r S L=>by calc Qd<|aS (h.1 A B R s r S L) (λJ s₁ h₁=>wpAny_Slice ?_) λZ Z x=>x;obtain⟨j,D,a,l₁,l,m,z⟩:=h₁;rw[evalPart_none];calc ap ?_;show ao _ _ (mkInt n) _ _ s₁;calc HN<|ap ?_;obtain⟨T,id,N,P,q⟩:=z.1 A j R _ J s₁.heap.objs.size .none (.int n s₁.toks) r ((l.toks<|s₁.toks+1).push {cls:= .type "slice",data:= .fields #[.none,.int n s₁.toks,.none]}) m rfl ⟨_,rfl⟩<|dy _ rfl;calc Eb N P rfl<|aS q (λv H C=>C.up l₁) λZ Z x=>x
theorem il(h1:1<=l.length)(hs:small l.length)(q:Q (.d<|.tup<|l.drop 1) O):wZ c k (.d<|.tup l) (some 1) none O Q:= .mk λA B R s I sl J L r S C j m p=>by calc aE (be.isTup S.up C) λa items g=>aN g λz D H=>?_;clear g;clear C;subst z;calc ai j λt g=>?_;clear j;subst g;obtain rfl:=m;have h:=H.length;calc⟨"tuple",_,D.typeIs,BV.lookup,getItem_tuple_from (u:=t) (a:=1) D ⟨_,p,rfl,rfl⟩ (bS _) (by rw[<-cu];calc(aq 8994915889) h1 h) ?_<|by rw[<-cu,h];calc hs.line⟩;have le:=fW (o:={cls:= .type "tuple",data:= .seq (items.toList.drop 1).toArray}) S.fresh.1;calc⟨_,O,.d<|.tup<|l.drop 1,le,(S.rz (o:={cls:= .type "tuple",data:= .seq (items.toList.drop 1).toArray}) rfl),⟨_,_,_,_,rfl,eE ..,rfl,rfl,aT.mono le<|H.drop 1⟩,q⟩
theorem Tx(b n:Nat):NW none (some (b:Int)) 1 (n:Int)=(0,((min b n:Nat):Int)):=by unfold NW;have h1:¬((1:Int)<0):=(dL 895753580831);have g:¬((b:Int)<0):=(aB 0xd08f12f01f1);simp only[h1,g,if_false];calc congrArg (Prod.mk _)<|mn b n
theorem Wb(m:Nat):Go 0 (m:Int) 1=m:=by
 unfold Go;have h1:(1:Int)>0:=(dL 2400317743);simp only[h1,if_true,Int.ediv_one];split
 .rw[Int.sub_zero,Int.sub_add_cancel];rfl
 .rename_i h;calc(Nat.eq_zero_of_not_pos λh'=>h<|wN.mpr h').symm
section
variable{M:oh}{A:cj}{E:Value->aA->Prop}{s:aA}
theorem UT{sl:Addr}{b n:Nat}{u:Tok}{Q:Int×Int×Nat->aA->Prop}(hs:s.heap.get? sl=some {cls:= .type "slice",data:= .fields #[.none,.int b u,.none]})(h:Q (0,1,min b n) s):ao (aO c.prog c.w) A (Builtin.Slice.sliceApplied (.ref sl)<|pure (n:Int)) Q E s:=by calc af<|af<|iw hs rfl (x:= .none) rfl<|af<|iw hs rfl (x:= .int b u) rfl<|af<|iw hs rfl (x:= .none) rfl<|ap<|af<|slicePart_none ?_;show ao _ _ (if((1:Int)==0)=true then _ else _) _ _ s;calc cw rfl<|af<|slicePart_none<|af<|slicePart_int<|af<|ap ?_;show ao _ _ (match NW none (some (b:Int)) 1 (n:Int) with|(g,hi)=>pure (g,(1:Int),Go g hi 1)) _ _ s;rw[Tx b n];show ao _ _ (pure ((0:Int),(1:Int),Go (0:Int) ((min b n:Nat):Int) 1)) _ _ s;rw[Wb];calc ap h
end
theorem A4(xs:Array Value)(m:Nat)(hm:m<=xs.size):((cS m).filterMap λ(k:Nat)=>xs[((0:Int)+(k:Int)*1).toNat]?).toArray=(xs.toList.take m).toArray:=by
 have:=pick_run xs 0 m;rw[List.filterMap_map,Hr] at this;rw[<-this];have e:(λ(k:Nat)=>xs[((0:Int)+(k:Int)*1).toNat]?)=(λx=>xs[x]?)∘λx=>0+x:=by funext k;show xs[((0:Int)+(k:Int)*1).toNat]? =xs[0+k]?;rw[Int.mul_one,wM,np];rfl
 rw[e]
theorem LA(hs:small l.length)(q:Q (.d<|.tup<|l.take n) O):wZ c k (.d<|.tup l) none (some n) O Q:= .mk λA B R s T sl U X r S H I z C=>by
 calc aE (be.isTup S.up H) λa items g=>aN g λJ h P=>?_;clear g;subst J;calc ai z λt g=>?_;clear z;subst g;obtain rfl:=I;have j:items.size=l.length:=by rw[<-cu,P.length]
 calc⟨"tuple",_,h.typeIs,BV.lookup,?_⟩;unfold uD
 try with_reducible refine co ?_
 calc af<|He h.typeIs (by decide) ?_;calc af<|jW (name:=ak "__getitem__") h.typeIs BV<|eL BV h.typeIs entry_tuple_getitem ?_<|args_tuple_getitem _ _;show ao _ _ (E3 (.ref a)>>=_) _ _ s;calc af<|tupleItemsOf_ h<|af<|ug ⟨_,C,rfl⟩<|fM rfl<|af<|UT C ?_;have p:sizeOk (.seq (items.toList.take<|min n items.size).toArray):=by show(items.toList.take<|min n items.size).toArray.size<=ly;rw[rX,R4,cu,j];exact aL (OU ..) hs.line
 have D:ao (aO c.prog c.w) A.in1 (do return <-ret (<-E6 ((cS<|min n items.size).filterMap λ(k:Nat)=>items[((0:Int)+(k:Int)*1).toNat]?).toArray)) (λfin s'=>∃v,fin= .done (.ret v)/\ao (aO c.prog c.w) A (pure v:Sem Value) (gc c Q B R) EF s') EF s:=by
  rw[A4 items _ (OU ..)];have le:=fW (o:={cls:= .type "tuple",data:= .seq (items.toList.take<|min n items.size).toArray}) S.fresh.1
  have fin:gc c Q B R (.ref s.heap.objs.size) {s with heap:=s.heap.push {cls:= .type "tuple",data:= .seq (items.toList.take<|min n items.size).toArray}}:=by
   calc⟨_,O,.d<|.tup<|l.take n,le,(S.rz (o:={cls:= .type "tuple",data:= .seq (items.toList.take<|min n items.size).toArray}) rfl),⟨_,_,_,_,rfl,eE ..,rfl,rfl,?_⟩,q⟩;have e:l.take n=l.take (min n items.size):=by rw[j,List.take_eq_take_iff,Nat.min_assoc,HA]
   rw[e];exact aT.mono le<|P.take<|min n items.size
  refine af (m:=E6 _)<|nX ?_ p
  first
   |calc ap ⟨_,rfl,ap fin⟩
   |exact af<|ap<|ap ⟨_,rfl,ap fin⟩
 show ao _ _ (if((0:Int)==0&&(1:Int)==1&&(min n items.size==items.size))=true then _ else _) _ _ s;by_cases L:((0:Int)==0&&(1:Int)==1&&(min n items.size==items.size))=true
 .refine fM (decide_eq_true L) ?_
  have N:l.length<=n:=by rw[<-j,<-(eq_of_beq (iu.mp L).2)];exact U1 ..
  calc af (m:=Builtin.Tuple.tupleIsExact<|.ref a) ?_;obtain⟨o,Y,hc,nn,hd⟩:=id h;calc af<|ug h.typeIs<|ap<|fM rfl ?_;rw[(nV N)] at q;refine af<|fq ?_
  first
   |calc ap ⟨_,rfl,ap ⟨B,O,_,Look.le_refl B,S,H,q⟩⟩
   |exact af<|ap<|ap ⟨_,rfl,ap ⟨B,O,_,Look.le_refl B,S,H,q⟩⟩
 .exact cw (decide_eq_false L)<|D
theorem Xz(hs:small l.length)(q:Q (.d<|.lst<|l.take n) O):wZ c k (.d<|.lst l) none (some n) O Q:= .mk λA B R s N sl P T r S D p j z=>by
 calc aE (be.mT S.up D) λa items g=>aN g λC H I=>?_;clear g;clear D;subst C;calc ai j λt g=>?_;clear j;subst g;obtain rfl:=p;have h:=I.length;have m:items.size=l.length:=by rw[<-cu,h]
 have e:HS items none (some (n:Int)) none=(items.toList.take n).toArray:=by
  have e1:HS items none (some (n:Int)) none=HS items (some ((0:Nat):Int)) (some ((min n items.size:Nat):Int)) none:=by
   unfold HS;have:PS none (some (n:Int)) none items.size=PS (some ((0:Nat):Int)) (some ((min n items.size:Nat):Int)) none items.size:=by simp only[PS,M7,show(1:Int)>0 by decide,if_true];have J:¬((n:Int)<0):=(aB 0xd08f12f01f1);have L:¬(((min n items.size:Nat):Int)<0):=(aV 0xd08f12f01f15f316a56a3d08f12f01f1) h m J;simp only[J,L,if_false];simp;exact⟨by rw[show(0:Int)=((0:Nat):Int) from rfl,mn,Nat.zero_min];rfl,by rw[mn,mn,Nat.min_assoc,HA]⟩
   rw[this]
  rw[e1,slicePick_run items 0 (min n items.size) (OU ..) (cO _)];simp
 calc⟨"list",_,H.typeIs,Oe.lookup,wpAny_getItem_list_slice H ⟨_,z,rfl,rfl⟩ .none (.int _ _) .none (ns) ?_<|by rw[m];calc hs.line⟩;rw[e];have le:=fW (o:={cls:= .type "list",data:= .seq (items.toList.take n).toArray}) S.fresh.1;calc⟨_,O,.d<|.lst<|l.take n,le,(S.rz (o:={cls:= .type "list",data:= .seq (items.toList.take n).toArray}) rfl),⟨_,_,_,_,rfl,eE ..,rfl,rfl,aT.mono le<|I.take n⟩,q⟩
theorem Lx(z:x.cps.size<=1000)(q:Q (.d<|.str ⟨x.cps.extract 0 1⟩) O):wZ c k (.d<|.str x) none (some 1) O Q:= .mk λA B R s I sl J L r S D j g m=>by
 calc ai g λt p=>?_;clear g;subst p;obtain rfl:=j;obtain⟨H,rfl⟩:=D;refine⟨"str",_,HQ s x H,F6.lookup,wpAny_getItem_str_slice (l:=none) (u:=some (1,t)) (st:=none) ⟨_,m,rfl,rfl⟩ rfl ?_⟩
 have key:slicePicked x none (some (1,t)) none=cS (min 1 x.cps.size):=by
  unfold slicePicked Builtin.Str.strSliceIndices;simp only[Ha,wE,M7,show(1:Int)>0 by decide,if_true];have h1:¬((1:Int)<0):=(dL 895753580831);simp only[h1,if_false];have e:max 0 (min (1:Int) (x.length:Int))=((min 1 x.cps.size:Nat):Int):=by show max 0 (min ((1:Nat):Int) (x.cps.size:Int))=_;rw[mn,mx]
  rw[e];simpa using(sliceRange_one 0<|min 1 x.cps.size)
 unfold sliceMade;rw[key]
 have h:(⟨((cS<|min 1 x.cps.size).filterMap (x.cps[·]?)).toArray⟩:Str)=⟨x.cps.extract 0 1⟩:=by
  congr 1;rcases x with⟨⟨l⟩⟩;cases l with
  |nil=>rfl
  |cons a l=>simp
 split
 .rename_i C
  have hs:x.cps.size<=1:=by simp at C;exact(aq 0x281206f16315f18613) z C rfl
  have e:(⟨x.cps.extract 0 1⟩:Str)=x:=by rcases x with⟨⟨l⟩⟩;simp only[Str.mk.injEq];simp at hs;simp[nV hs]
  rw[e] at q;exact⟨B,O,.d<|.str x,Look.le_refl B,S,⟨_,rfl⟩,q⟩
 .rw[h];calc⟨?_,B,O,.d<|.str ⟨x.cps.extract 0 1⟩,Look.le_refl B,S.toks _,⟨_,rfl⟩,q⟩;show(x.cps.extract 0 1).size<=ly;rw[dO];simp;calc(aB 9481183012456177) z
end
section
variable{c:Cx}{k:Nat}{V:Env}{O:al}{ρ:az}{Q:PV->al->Prop}
theorem bC.un(h:bC w B [p] vs):∃v,vs=[v]/\RV w B p v:=by obtain⟨v,g,rfl,j,h'⟩:=h;rw[show g=[] from h'];calc⟨v,rfl,j⟩
theorem bC.pJ(h:bC w B [p,q] vs):∃v u,vs=[v,u]/\RV w B p v/\RV w B q u:=by obtain⟨v,l,rfl,m,h'⟩:=h;calc ai h'.un λu g=>?_;have j:=g.1;have r:=g.2;clear g;clear h';subst j;calc bv v u<|aR rfl m r
theorem bC.NK(h:bC w B [p,q,r] vs):∃v u t,vs=[v,u,t]/\RV w B p v/\RV w B q u/\RV w B r t:=by obtain⟨v,l,rfl,m,h'⟩:=h;calc aE h'.pJ λu t g=>aN g λj z C=>?_;clear g;clear h';subst j;calc jQ v u t<|cx rfl m z C
theorem bC.size{l:List PV}{items:Array Value}(h:bC w B l items.toList):items.size=l.length:=by rw[<-cu,h.length]
theorem lF(z:O a=some (.lst l))(hs:small l.length)(q:Q (.d .none)<|upd O a<|.lst<|l++[p]):aW c k (.builtin "list.append") [.ref a,p] O Q:= .mk λA B R s vs r S C=>by calc aE C.pJ λv u g=>aN g λh H I=>?_;clear g;clear C;subst h;rw[show v= .ref a from H];calc aE (S.lst z) λitems e g=>?_;have j:=g.1;have D:=g.2;calc Qb lR ⟨_,j,rfl⟩ PySem.F.entry_list_append (PySem.F.args_list_append_2 _ _) (list_append a items e u<|by rw[D.size];calc hs.line) ⟨j,⟨B,_,.d .none,Look.le_refl B,S.turn (m:= .lst<|l++[p]) z (dA ..) (fK _ j rfl) ⟨_,_,rfl,by rw[kH];calc bC.append D<|.one I⟩,rfl,q⟩⟩
theorem Jv(I:a≠b)(C:O a=some (.lst l))(hb:O b=some (.lst m))(hs:small<|l.length+m.length)(q:Q (.d .none)<|upd O a<|.lst<|l++m):aW c k (.builtin "list.extend") [.ref a,.ref b] O Q:= .mk λA B R s vs r S D=>by
 calc aE D.pJ λv u g=>aN g λp J L=>?_;clear g;clear D;subst p;rw[show v= .ref a from J,show u= .ref b from L];calc aE (S.lst C) λitems e g=>?_;have z:=g.1;have H:=g.2;calc aE (S.lst hb) λh e2 g=>?_;have j:=g.2;have hz:items.size+h.size<=ly:=by rw[H.size,j.size];exact hs.line
 calc Qb rT ⟨_,z,rfl⟩ Oa (NY _ _) (AutoSeq1.list_extend_list_list_0 a items e b h e2 (extend_door hz) (aL (kI _ _) hz)<|nf hz)<|aR z g.1<|⟨B,_,.d .none,Look.le_refl B,S.turn (m:= .lst<|l++m) C (dA ..) (fK _ z rfl) ⟨_,_,rfl,by rw[lq];calc bC.append H j⟩,rfl,q⟩
theorem Wp(a b:Addr)(items g:Array Value)(n:Nat)(l:Obj)(hc:l.cls= .type "list")(n2:Nat)(hd:l.data= .seq g n2)(hz:items.size+g.size<=ly){E:Value->aA->Prop}{s:aA}{Q:Value->aA->Prop}(m:s.heap.get? a=some {cls:= .type "list",data:= .seq items n})(j:s.heap.get? b=some l)(h:Q .none {s with heap:=s.heap.update a (dc (·++g))}):ao (aO prog w) A (call (.builtin "list.extend") [.ref a,.ref b]) Q E s:=by calc eL rT ⟨_,m,rfl⟩ Oa ?_<|NY _ _;show ao _ _ (NU (.ref a) (.ref b) .none) _ _ s;calc af<|ug (T:="list") ⟨l,j,hc⟩<|fM (decide_eq_true<|by simp)<|af<|Cz j hd<|af<|Cz m rfl<|cw (decide_eq_false<|extend_door hz)<|af<|wJ m rfl (ap ⟨_,rfl,h⟩) (aL (kI _ _) hz)<|by rw[N1];calc nf hz
theorem IM{a:Addr}{l:List PV}{m:List Dt}(I:O a=some (.lst l))(hs:small<|l.length+m.length)(q:Q (.d .none)<|upd O a<|.lst<|l++m.map .d):aW c k (.builtin "list.extend") [.ref a,.d (.lst m)] O Q:= .mk λA B R s vs r S N=>by
 calc aE N.pJ λv u h=>aN h λp P T=>?_;clear h;subst p;rw[show v= .ref a from P];calc aE (S.lst I) λitems e h=>?_;have J:=h.1;have L:=h.2;obtain⟨b,U,g,e2,rfl,z,C,D,H⟩:=T;have j:=bC.AD H;have hz:items.size+g.size<=ly:=by rw[L.size,j.size,au];exact hs.line
 calc Wp a b items g e U C e2 D hz J (S.fb _ _ z)<|⟨B,_,.d .none,Look.le_refl B,S.turn (m:= .lst<|l++m.map .d) I (dA ..) (fK _ J rfl) ⟨_,_,rfl,by rw[lq];calc bC.append L j⟩,rfl,q⟩
theorem bC.dropLast:∀{l:List PV} {vs:List Value},bC w B l vs->bC w B l.dropLast vs.dropLast
 |[],vs,h=>by rw[show vs=[] from h];rfl
 |[p],vs,h=>by calc ai h.un λv g=>aw g λj Z=>?_;clear g;clear h;subst j;rfl
 |p::q::r,vs,⟨v,m,e,h,hs⟩=>by subst e;obtain⟨u,us,rfl,C,z⟩:=id hs;calc⟨v,(u::us).dropLast,rfl,h,bC.dropLast hs⟩
theorem Nt(C:O a=some (.lst<|l++[p]))(hs:small<|l.length+1)(q:Q p<|upd O a<|.lst l):aW c k (.builtin "list.pop") [.ref a] O Q:= .mk λA B R s vs r S D=>by
 calc ai D.un λv g=>?_;have h:=g.1;have I:=g.2;clear g;clear D;subst h;rw[show v= .ref a from I];calc aE (S.lst C) λitems e g=>?_;have j:=g.1;have z:=g.2;have hz:=z.size;rw[bA,gG] at hz;calc ai (z.get (i:=l.length) (d:=p)<|F8) λu g=>?_;have H:=g.1;have J:=g.2;rw[fj] at H;calc Qb Og ⟨_,j,rfl⟩ PySem.F.entry_list_pop (PySem.F.args_list_pop_1 _) (PySem.MeetsSeq.list_pop_last a items e u (by rw[hz];simpa using H)<|by rw[hz];calc hs.line) ⟨j,⟨B,_,p,Look.le_refl B,S.turn (m:= .lst l) C (dA ..) (fK _ j rfl) ⟨_,_,rfl,?_⟩,J,q⟩⟩;have e1:(items.eraseIdxIfInBounds<|items.size -1).toList=items.toList.dropLast:=by unfold Gv;rw[dif_pos (Nat.sub_one_lt<|hz▸OS _)];simp only[Array.toList_eraseIdx];rw[<-cu,List.eraseIdx_length_sub_one]
 rw[e1];have:=z.dropLast;rwa [List.dropLast_concat] at this
theorem AV(h:small n):(n:Int)<2^63:=(aB 0x8f3af01f1205f1) h
theorem jm{a:Addr}{l:List PV}(p:O a=some (.lst l))(hs:small l.length)(q:Q (.d<|.int l.length) O):aW c k (.builtin "len") [.ref a] O Q:= .mk λA B R s vs r S j=>by calc ai j.un λv g=>?_;have h:=g.1;have z:=g.2;clear g;clear j;subst h;rw[show v= .ref a from z];calc aE (S.lst p) λitems e g=>?_;have C:=g.1;have m:=g.2;calc K8 (items:=items) ⟨_,C,rfl,_,rfl⟩ (by rw[m.size];calc AV hs) ⟨B,O,.d<|.int l.length,Look.le_refl B,S.toks _,⟨_,by rw[m.size]⟩,q⟩
theorem DF(hs:small l.length)(q:Q (.d<|.int l.length) O):aW c k (.builtin "len") [.d (.lst l)] O Q:= .mk λA B R s vs r S j=>by
 calc ai j.un λv g=>?_;have h:=g.1;have m:=g.2;clear g;subst h;calc aE (be.mT S.up m) λa items g=>aN g λh p z=>?_;clear g;clear j m;subst h;have hz:items.size=l.length:=by rw[<-cu,z.length]
 calc K8 (items:=items) p (by rw[hz];calc AV hs) ⟨B,O,.d<|.int l.length,Look.le_refl B,S.toks _,⟨_,by rw[hz]⟩,q⟩
theorem kZ(hs:small l.length)(q:Q (.d<|.int l.length) O):aW c k (.builtin "len") [.d (.tup l)] O Q:= .mk λA B R s vs r S j=>by
 calc ai j.un λv g=>?_;have h:=g.1;have m:=g.2;clear g;subst h;calc aE (be.isTup S.up m) λa items g=>aN g λh p z=>?_;clear g;clear j m;subst h;have hz:items.size=l.length:=by rw[<-cu,z.length]
 calc PyProof.Rows.len_tuple (items:=items) p (by rw[hz];calc AV hs) ⟨B,O,.d<|.int l.length,Look.le_refl B,S.toks _,⟨_,by rw[hz]⟩,q⟩
theorem Ff(z:O a=some (.aM l))(hs:small l.length)(q:Q (.d<|.int l.length) O):aW c k (.builtin "len") [.ref a] O Q:= .mk λA B R s vs r S C=>by
 calc ai C.un λv g=>?_;have j:=g.1;have H:=g.2;clear g;clear C;subst j;rw[show v= .ref a from H];calc aE (S.aM z) λes e g=>aN g λp D I=>?_;have hz:es.size=l.length:=by rw[D.size,au]
 have h:=AV hs;calc G6 kind_len plain_len entry_len (args_len1 _) ?_;calc af (m:=oneArg "len" _)<|ap ?_;calc af (m:=callSpecial? (.ref a)<|ak "__len__")<|jW (name:=ak "__len__") ⟨_,p,rfl⟩ Oh<|eL Oh ⟨_,p,rfl⟩ PySem.F.entry_dict_len ?_<|PySem.F.args_dict_len_1 _;show ao _ _ (dictSize a>>=λn=>NX a>>=λm=>retInt<|n+m) _ _ s;calc af<|af<|rZ p rfl<|ap ?_;have hp:NX a=pure 0:=by unfold NX;rw[if_neg (by rw[S.vr z];calc lr)]
 rw[hp];calc af<|ap<|af<|HN<|ap ⟨_,rfl,af<|co<|ap<|af<|CE ?_⟩;rw[hz];show ao _ _ (if((l.length+0:Nat):Int)<0 then _ else _) _ _ _;calc cw rfl ?_;show ao _ _ (if((l.length+0:Nat):Int)>=2^63 then _ else _) _ _ _;calc cw (decide_eq_false<|(aq 0xd0ef01f4e13af61308f3af01f1) hz h)<|af<|HN<|ap ⟨_,rfl,⟨B,O,.d<|.int l.length,Look.le_refl B,S.toks _,⟨_,rfl⟩,q⟩⟩
theorem pX(hs:small l.length)(q:Q (.d<|.tup l) O):aW c k (.type "tuple") [.d (.lst l)] O Q:= .mk λA B R s vs r S m=>by
 calc ai m.un λv g=>?_;have j:=g.1;have p:=g.2;clear g;subst j;calc aE (be.mT S.up p) λa items g=>aN g λj C z=>?_;clear g;clear m p;subst j;have hz:items.size=l.length:=by rw[<-cu,z.length]
 calc call_tuple_list C (λh' hk=>?_) (by rw[hz];calc hs.line);have h:Sat c B O R {s with heap:=h'}:=S.grow rfl rfl hk;have le:=fW (o:={cls:= .type "tuple",data:= .seq items}) h.fresh.1;calc⟨_,O,.d<|.tup l,le,(h.rz (o:={cls:= .type "tuple",data:= .seq items}) rfl),⟨_,_,_,_,rfl,eE ..,rfl,rfl,aT.mono le z⟩,q⟩
theorem Mf(q:Q (.d<|.tup l) O):aW c k (.type "tuple") [.d (.tup l)] O Q:= .mk λA B R s vs r S j=>by calc ai j.un λv g=>?_;have h:=g.1;have m:=g.2;clear g;subst h;calc aE (be.isTup S.up m) λa items g=>aN g λh p z=>?_;clear g;clear j;subst h;calc call_tuple_same (items:=items) p ⟨B,O,.d<|.tup l,Look.le_refl B,S,m,q⟩
theorem UE(hs:small l.length)(q:Q (.d<|.lst l) O):aW c k (.type "list") [.d (.lst l)] O Q:= .mk λA B R s vs r S C=>by
 calc ai C.un λv h=>?_;have p:=h.1;have D:=h.2;clear h;subst p;obtain⟨a,o,items,e,rfl,H,hc,hd,z⟩:=D;have hz:items.size=l.length:=by rw[<-cu,z.length]
 calc call_list_seq a (.inl rfl) (S.fb _ _ H) hc hd (λh' I hk j=>?_) (by rw[hz];calc hs.line);have m:Sat c B O R {s with heap:=h'}:=S.grow rfl rfl hk;have fr:=S.fresh;have g:=m.rG fr.1 fr.2.2 j;rw[rM fr.2.1] at g;have le:=fW (o:={cls:= .type "list",dict:=none,data:= .seq items I,slots:=#[]}) fr.1;calc⟨_,O,.d<|.lst l,le,g,⟨_,_,_,_,rfl,eE ..,rfl,rfl,aT.mono le z⟩,q⟩
theorem Ay(hs:small<|a.length+b.length)(q:Q (.d<|.lst<|a++b) O):gF c k (sr .Add) (.d<|.lst a) (.d<|.lst b) O Q:= .mk λA B R s U X r S I J=>by
 obtain⟨x,⟨Y,L,dt,sl⟩,items,e,rfl,N,hc,hd,D⟩:=I;obtain⟨y,⟨P,m,T,p⟩,g,e2,rfl,z,h,j,l⟩:=J;simp only at hc hd h j;subst hc hd h j;have hz:items.size=a.length:=by rw[<-cu,D.length]
 have C:g.size=b.length:=by rw[<-cu,l.length]
 have h1:=S.fb _ _ N;have H:=S.fb _ _ z;calc Cy ⟨_,h1,rfl⟩ ⟨_,H,rfl⟩ noFill_list_add seq_list_add I5 H1 (G5 _ _) (list_addW x y items g e e2 L m sl p<|by rw[hz,C];calc hs.line)<|aR h1 H ?_;have le:=fW (o:={cls:= .type "list",data:= .seq<|items++g}) S.fresh.1;calc⟨_,O,.d<|.lst<|a++b,le,(S.rz (o:={cls:= .type "list",data:= .seq<|items++g}) rfl),⟨_,_,_,_,rfl,eE ..,rfl,rfl,by rw[lq];calc aT.append (aT.mono le D)<|aT.mono le l⟩,q⟩
theorem RG(H:O x=some (.lst a))(hy:O y=some (.lst b))(hs:small<|a.length+b.length)(q:∀z,O z=none->Q (.ref z) (upd O z<|.lst<|a++b)):gF c k (sr .Add) (.ref x) (.ref y) O Q:= .mk λA B R s I J r S L N=>by rw[show I= .ref x from L,show J= .ref y from N];calc aE (S.lst H) λitems e h=>aw h λC D=>aE (S.lst hy) λg e2 h=>aw h λj l=>Cy ⟨_,C,rfl⟩ ⟨_,j,rfl⟩ noFill_list_add seq_list_add I5 H1 (G5 _ _) (list_addW x y items g e e2 none none #[] #[] (by rw[D.size,l.size];calc hs.line))<|aR C j ?_;have p:=S.xE (o:={cls:= .type "list",data:= .seq<|items++g}) (m:= .lst<|a++b) rfl ⟨_,_,rfl,by rw[lq];calc bC.append D l⟩;calc⟨B,_,.ref _,Look.le_refl B,p,rfl,q _ S.fresh.2.1⟩
theorem qi(hs:small<|a.length+b.length)(q:Q (.d<|.tup<|a++b) O):gF c k (sr .Add) (.d<|.tup a) (.d<|.tup b) O Q:= .mk λA B R s va vb r S I J=>by
 have L:=I;have N:=J;obtain⟨x,⟨cl,P,dt,sl⟩,items,e,rfl,X,hc,hd,T⟩:=L;obtain⟨y,⟨Y,h,Z,j⟩,g,e2,rfl,U,z,C,l⟩:=N;simp only at hc hd z C;subst hc hd z C;have hz:items.size=a.length:=by rw[<-cu,T.length]
 have m:g.size=b.length:=by rw[<-cu,l.length]
 have h1:=S.fb _ _ X;have p:=S.fb _ _ U;by_cases D:items.isEmpty=true
 .refine Cy ⟨_,h1,rfl⟩ ⟨_,p,rfl⟩ Pf PG Of Od (Oc _ _) (tuple_addW0 x y items g e e2 P h sl j D)<|aR h1 p ?_
  have ha:a=[]:=by rw[NV,hz] at D;exact BF D
  clear hz T hs I;subst ha;exact⟨B,O,.d<|.tup<|[]++b,Look.le_refl B,S,J,q⟩
 .by_cases H:g.isEmpty=true
  .refine Cy ⟨_,h1,rfl⟩ ⟨_,p,rfl⟩ Pf PG Of Od (Oc _ _) (tuple_addW1 x y items g e e2 P h sl j D H)<|aR h1 p ?_
   have hb:b=[]:=by rw[NV,m] at H;exact BF H
   clear m J l hs;subst hb;rw[ea] at q;exact⟨B,O,.d<|.tup a,Look.le_refl B,S,I,q⟩
  .refine Cy ⟨_,h1,rfl⟩ ⟨_,p,rfl⟩ Pf PG Of Od (Oc _ _) (tuple_addW2 x y items g e e2 P h sl j D H<|by rw[hz,m];calc hs.line)<|aR h1 p ?_;have le:=fW (o:={cls:= .type "tuple",data:= .seq<|items++g}) S.fresh.1;calc⟨_,O,.d<|.tup<|a++b,le,(S.rz (o:={cls:= .type "tuple",data:= .seq<|items++g}) rfl),⟨_,_,_,_,rfl,eE ..,rfl,rfl,by rw[lq];calc aT.append (aT.mono le T)<|aT.mono le l⟩,q⟩
structure Key(x:Dt):Prop where
 key:x.key=true
 dZ:x.depth<=6
theorem Mx(h:dH l x=some p):x∈l.map (·.1):=by have:=Ei (l:=l) (x:=x);rw[h] at this;simpa using this
theorem Ir(h:dH l x=none):x∉l.map (·.1):=by have:=Ei (l:=l) (x:=x);rw[h] at this;simpa using this
theorem FN{l:List<|Dt×PV}{es:Array en}(D:gP w B (l.map (·.1)) es)(r:bC w B (l.map (·.2)) (es.toList.map (·.val))){x:Dt}{j:Nat}{e:en}(hj:(l.map (·.1))[j]? =some x)(he:es[j]? =some e):∃p,dH l x=some p/\RV w B p e.val:=by
 obtain⟨y,hy⟩:∃y,l[j]? =some (x,y):=by rw[dm] at hj;calc ai (jX.mp hj) λg h=>?_;have h1:=h.1;have C:=h.2;clear h;obtain⟨z,q⟩:=g;exact⟨q,by rw[h1,<-C]⟩
 calc⟨y,wg D.c hy,ai (r.get (i:=j) (d:=y)<|by rw[dm,hy];rfl) λu g=>aw g λm H=>?_⟩;rw[dm,fj,he] at m;obtain rfl:e.val=u:=by simpa using m
 calc H
theorem td{l:List<|Dt×PV}{es:Array en}(D:gP w B (l.map (·.1)) es):es.size=l.length:=by rw[D.size,au]
theorem XJ(I:Key x)(q:Q (match qa ks h x with|some y=> .d y|none=>p) O)(m:ks.length=h.length):aW c k (.builtin "dict.get") [.d (.aM ks h),.d x,p] O Q:= .mk λA B R s vs r S P=>by
 calc gz P.NK λv u t g=>bV g λl T U X=>?_;clear g;subst l;calc jV (be.aM T) λa o es e g=>qY g λl J Y L hd D N=>?_;clear g;clear P T;subst l;have C:=S.fb _ _ Y;calc eL I8 ⟨_,C,L.1⟩ PySem.F.entry_dict_get ?_<|PySem.F.args_dict_get_3 _ _ _;show ao _ _ (CW a u>>=_) _ _ s;refine af<|Ez (by have:=r.u;show A.units+1+12<dP;calc Q7 this) C hd (D.mono S.up) I.key I.dZ (be.mono S.up U) (λZ=>?_) λj e' hj he=>?_
 .have:qa ks h x=none:=by
   unfold qa;rw[GP.mpr,Ha];exact λe he I=>Z<|by rw[<-of_decide_eq_true I];exact(Ce he).1
  rw[this] at q;show ao _ _ (Builtin.Dict.missed a u>>=_) _ _ _;exact af<|wpAny_missed_other (by rw[beq_eq_false_iff_ne];calc J)<|ap ⟨t,rfl,B,O,p,Look.le_refl B,S.toks _,X,q⟩
 .refine ai (⟨_,cR<|by rw[<-m];calc(dJ.mp hj).1⟩:∃z,h[j]? =some z) λz hz=>?_
  rw[Fy D.c hj hz] at q;calc ai (N.get hz) λu' g=>?_;have H:=g.1;rw[dm,fj,he] at H;obtain rfl:e'.val=u':=by simpa using H
  calc ap ⟨_,rfl,B,O,.d z,Look.le_refl B,S.toks _,g.2,q⟩
theorem ZA{a:Addr}{l:List<|Dt×PV}(z:O a=some (.aM l))(m:Key x)(hs:small l.length)(q:match dH l x with|some C=>Q C O|none=>Q p<|upd O a<|.aM<|dput l x p):aW c k (.builtin "dict.setdefault") [.ref a,.d x,p] O Q:= .mk λA B R s vs r S J=>by
 calc gz J.NK λv u t g=>bV g λH U L N=>?_;clear g;clear J;subst H;rw[show v= .ref a from U];calc aE (S.aM z) λes e g=>aN g λI D h=>?_;have P:s.TypeIs (.ref a) "dict":=⟨_,I,rfl⟩;calc eL yH P PySem.F.entry_dict_setdefault ?_<|PySem.F.args_dict_setdefault_3 _ _ _;show ao _ _ ((NZ "setdefault" ⟨[.ref a,u,t],[]⟩>>=λZ=>pure (a,u,some t))>>=_) _ _ s;calc af<|af<|GK P<|ap ?_;show ao _ _ (if(a==si)=true then _ else _) _ _ s;refine cw (decide_eq_false<|by rw[S.vr z];calc lr)<|af<|RI (by have:=r.u;show A.units+1+12<dP;calc Q7 this) I rfl (D.mono S.up) m.key m.dZ (be.mono S.up L) (by rw[td D];calc hs) (λT=>?_) λj X hj he=>?_
 .rw[yy T] at q;exact ap ⟨t,rfl,B,_,p,Look.le_refl B,((S.dput z m.key m.dZ L N es e I D h).1 T).toks _,N,q⟩
 .refine ai (FN D h hj he) λC g=>?_;rw[g.1] at q;calc ap ⟨_,rfl,B,O,C,Look.le_refl B,S.toks _,g.2,q⟩
theorem Yy{a:Addr}{l:List<|Dt×PV}{x:Dt}(P:O a=some (.aM l))(T:Key x)(hs:small l.length)(hp:dH l x=some p)(q:Q p<|upd O a<|.aM<|lQ l x):aW c k (.builtin "dict.pop") [.ref a,.d x] O Q:= .mk λA B R s vs r S U=>by
 calc aE U.pJ λv u g=>aN g λh Y Z=>?_;clear g;clear U;subst h;rw[show v= .ref a from Y];calc aE (S.aM P) λes e g=>aN g λL D C=>?_;have X:s.TypeIs (.ref a) "dict":=⟨_,L,rfl⟩;have hm:=Mx hp;have N:es.isEmpty=false:=by rw[qr];intro he;rw[NV,td D] at he;rw[BF he] at hm;simp at hm
 calc eL I6 X PySem.F.entry_dict_pop ?_<|PySem.F.args_dict_pop_2 _ _;show ao _ _ ((NZ "pop" ⟨[.ref a,u],[]⟩>>=λ_=>pure (a,u,none))>>=_) _ _ s;refine af<|af<|GK X<|ap ?_
 have H:ao (aO c.prog c.w) A.in1 (Gz a u) (λold s'=>ao (aO c.prog c.w) A.in1 (do
   if old.isNone then E5 a u
   match old,(none:Option Value) with
   |some e,_=>letGo [e.key] [e.val];ret e.val
   |none,some x=>rule "dict.pop.default";ret x
   |none,none=>rule "dict.pop.keyerror";HW<|<-Db (.type "KeyError") [u]) (λfin m=>∃v,fin= .done (.ret v)/\gc c Q B R v m) EF s') EF s:=by
  calc UZ (by have:=r.u;show A.units+1+12<dP;calc Q7 this) L rfl (D.mono S.up) T.key T.dZ (be.mono S.up Z) (by rw[td D];calc hs) hm λj e' hj he=>?_;obtain⟨y,hy⟩:∃y,l[j]? =some (x,y):=by rw[dm] at hj;calc ai (jX.mp hj) λg h=>?_;have h1:=h.1;have h2:=h.2;clear h;obtain⟨z,q⟩:=g;exact⟨q,by rw[h1,<-h2]⟩
  calc ai (FN D C (by rw[dm,hy];rfl) he) λp' g=>?_;have I:=g.1;rw[hp] at I;cases I
  have J:Sat c B (upd O a<|.aM<|lQ l x) R {s with heap:=s.heap.update a (Ci (·.eraseIdxIfInBounds j))}:=by
   refine S.turn P (dA ..) (fK _ L rfl)<|RM.DD ?_ ?_
   .rw[LZ D.c hy,wc];refine⟨?_,?_,D.c.sublist<|List.eraseIdx_sublist ..,Dt.zL.mpr λd hd=>Dt.zL.mp D.d d<|J2 hd,Dt.My λd hd=>aL (Dt.zP<|J2 hd) D.e⟩
    .rw[DB,wc];exact D.a.erase j
    .rw[DB,wc,D.b,xO,xO,wc]
   .rw[LZ D.c hy,wc,DB,wc];exact C.erase j
  exact cw rfl<|af<|CE<|ap ⟨_,rfl,B,_,p,Look.le_refl B,J.toks _,g.2,q⟩
 have fin:ao (aO c.prog c.w) A.in1 (do
   let old <-Gz a u;if old.isNone then E5 a u
   match old,(none:Option Value) with
   |some e,_=>letGo [e.key] [e.val];ret e.val
   |none,some x=>rule "dict.pop.default";ret x
   |none,none=>rule "dict.pop.keyerror";HW<|<-Db (.type "KeyError") [u]) (λfin m=>∃v,fin= .done (.ret v)/\gc c Q B R v m) EF s:=af H
 dsimp only;by_cases hk:(keyPart u).isSome=true
 .exact fM (decide_eq_true hk)<|af<|ap<|cw rfl<|fin
 .refine cw (decide_eq_false hk)<|af<|rZ L rfl<|af<|ap ?_;rw[N,if_neg lr];calc fin
structure Ey(c:Cx)(k:Nat)(a i p:PV)(O:al)(Q:al->Prop):Prop where
 go:∀A B R s va vi v,cP k A->Sat c B O R s->RV c.w B a va->RV c.w B i vi->RV c.w B p v->ao (aO c.prog c.w) A (setItem va vi v) (λ_ s'=>Sb c Q B R s') EF s
@[reducible] noncomputable def Qx (ρ:az) (Q:al->az->Prop):al->Prop:=λO=>Q O ρ
@[reducible] noncomputable def Zj (c:Cx) (k:Nat) (a p:PV) (Q:al->Prop):PV->al->Prop:=λb O=>Ey c k a b p O Q
@[reducible] noncomputable def WM (c:Cx) (k:Nat) (V:Env) (ρ:az) (i:Expr) (p:PV) (Q:al->Prop):PV->al->Prop:=λa O=>WE c k V ρ i O<|Zj c k a p Q
theorem EJ{Q:al->az->Prop}(h:WE c k V ρ o O<|WM c k V ρ i p<|Qx ρ Q):cW c k V ρ (.Subscript o i a1) p O Q:= .mk λA B R s v r S L rv=>by rw[assign_Subscript];calc af<|co<|aS (h.1 A B R s r S L) (λva s₁ h₁=>?_) λ_ _ x=>x;obtain⟨j,Y,a,l₁,m,q,z⟩:=h₁;calc af<|co<|aS (z.1 A j R s₁ r m<|L.mono l₁) (λvb s₂ C=>?_) λ_ _ x=>x;obtain⟨D,Z,b,l₂,H,I,J⟩:=C;calc af<|hY<|af<|co<|aS (J.1 A D R s₂ va vb v r H (q.mono l₂) I<|rv.mono<|Look.le_trans l₁ l₂) (λ_ a0 N=>?_) λ_ _ x=>x;obtain⟨P,g,T,U,X⟩:=N;have l:=Look.le_trans (Look.le_trans l₁ l₂) T;calc Fo ⟨P,g,R,ρ,l,λ_ _=>rfl,U,L.mono l,X⟩
theorem pN{a:Addr}{l:List<|Dt×PV}{Q:al->Prop}(H:O a=some (.aM l))(g:Key x)(hs:small l.length)(q:Q<|upd O a<|.aM<|dput l x p):Ey c k (.ref a) (.d x) p O Q:= .mk λA B R s L I v r S N J T=>by
 rw[show L= .ref a from N];calc aE (S.aM H) λes e m=>aN m λz D C=>?_;have h:s.TypeIs (.ref a) "dict":=⟨_,z,rfl⟩;unfold setItem
 try with_reducible refine co ?_
 calc af<|He h (by decide) ?_;calc af<|jW (name:=ak "__setitem__") h slot_dict_setitem<|eL slot_dict_setitem h entry_dict_setitem ?_<|args_dict_setitem _ _ _;show ao _ _ (NZ "__setitem__" ⟨[.ref a,I,v],[]⟩>>=_) _ _ s;calc af<|GK h ?_;show ao _ _ (dictSet a I v>>=_) _ _ s;have P:=S.dput H g.key g.dZ J T es e z D C;calc af<|NA (by have:=r.u;show A.units+1+12<dP;calc Q7 this) z rfl (D.mono S.up) g.key g.dZ (be.mono S.up J) (by rw[td D];calc hs) (λU=>ap ⟨.none,rfl,ap ⟨B,_,Look.le_refl B,(P.1 U).toks _,q⟩⟩) λj hj=>ap ⟨.none,rfl,ap ⟨B,_,Look.le_refl B,(P.2 j hj).toks _,q⟩⟩
theorem bC.set(hp:RV w B p v):∀{l:List PV} {vs:List Value} (j:Nat),bC w B l vs->bC w B (l.set j p) (vs.set j v):=by
 intro g;induction g with
 |nil=>
  intro vs j h;rw[show vs=[] from h];calc rfl
 |cons q D C=>
  intro vs;intro m;cases m with
  |zero=>
   intro r;obtain⟨u,us,e,h,hs⟩:=r;rw[e];calc⟨v,us,rfl,hp,hs⟩
  |succ j=>
   intro z;obtain⟨u,us,e,h,hs⟩:=z;rw[e];calc⟨u,_,rfl,h,C j hs⟩
theorem Zh{a:Addr}{l:List PV}{i:Int}{Q:al->Prop}(H:O a=some (.lst l))(h0:0<=i)(hi:i.toNat<l.length)(hs:small l.length)(q:Q<|upd O a<|.lst<|l.set i.toNat p):Ey c k (.ref a) (.d<|.int i) p O Q:= .mk λA B R s J T v r S L N P=>by
 rw[show J= .ref a from L];obtain⟨t,rfl⟩:=N;calc aE (S.lst H) λitems e g=>?_;have z:=g.1;have I:=g.2;have C:s.TypeIs (.ref a) "list":=⟨_,z,rfl⟩;unfold setItem
 try with_reducible refine co ?_
 calc af<|He C (by decide) ?_;calc af<|jW (name:=ak "__setitem__") C H7<|eL H7 C PySem.entry_list_setitem ?_<|PySem.args_list_setitem _ _ _;show ao _ _ (Builtin.List.listSubscript? (.int i t)>>=_) _ _ s;calc af<|wpAny_listSubscript_int (fitsIndex_of h0<|Py ((Px h0).mp hi)<|OF (wO.mpr hs)<|by decide)<|ai (J7 h0) λj g=>?_;clear h0;subst g;have hj:j<items.size:=by rw[I.size];simpa using hi
 have D:items[j]? =some items[j]:=ct hj;show ao _ _ ((seqItemAt a j>>=λr=>pure (r.map (j,·)))>>=_) _ _ s;calc af<|af<|wpAny_seqItemAt z rfl<|ap ?_;rw[D];show ao _ _ (setSeqItemAt a j v>>=_) _ _ s;have h:=S.turn (m:= .lst<|l.set j p) H (dA s.heap a (dc (·.setIfInBounds j v))) (fK _ z rfl) ⟨_,_,rfl,by simp only[Ob];calc bC.set P j I⟩;refine af<|wpAny_setSeqItemAt z rfl ?_
 first
  |calc af<|ap<|ap ⟨.none,rfl,ap ⟨B,_,Look.le_refl B,h,by simpa using q⟩⟩
  |calc ap ⟨.none,rfl,ap ⟨B,_,Look.le_refl B,h,by simpa using q⟩⟩
theorem Mg{a:Addr}(q:O a=some (.aM l))(z:Key x){Q:Bool->aA->Prop}(r:cP k A)(S:Sat c B O R s)(H:be c.w B x v)(h:Q (dH l x).isSome {s with toks:=s.toks+fu x}):ao (aO c.prog c.w) A (contains (.ref a) v) Q EF s:=by
 calc aE (S.aM q) λes e g=>aN g λC D m=>?_;have p:s.TypeIs (.ref a) "dict":=⟨_,C,rfl⟩;unfold contains
 try with_reducible refine co ?_
 calc af<|pb p OR.lookup ?_;show ao _ _ (if(some (qx "dict.__contains__")==some ga)=true then _ else _) _ _ s;calc cw rfl ?_;calc af<|wpAny_callSpecialUnlessNone?_slot (name:=ak "__contains__") p OR<|eL OR p entry_dict_contains ?_<|args_dict_contains _ _;show ao _ _ (CW a v>>=_) _ _ s;refine af<|Ez (by have:=r.u;show A.units+1+12<dP;calc Q7 this) C rfl (D.mono S.up) z.key z.dZ (be.mono S.up H) (λI=>?_) λj L hj he=>?_
 .rw[yy I] at h;show ao _ _ (Builtin.Dict.pendingKey? a v>>=_) _ _ _;exact af<|wpAny_pendingKey_other (S.vr q)<|ap ⟨_,rfl,tV h⟩
 .refine ai (FN D m hj he) λN g=>?_;have J:=g.2;rw[g.1] at h;calc ap ⟨_,rfl,tV h⟩
theorem Jk{a:Addr}(g:O a=some (.aM l))(h:Key x)(q:Q (.d<|.bool (dH l x).isSome) O):gF c k (jY .In) (.d x) (.ref a) O Q:= .mk λA B R s z j r S m p=>by rw[show j= .ref a from p];calc af<|Mg g h r S m<|ap ⟨B,O,.d<|.bool _,Look.le_refl B,S.toks _,rfl,q⟩
theorem Uw{a:Addr}(g:O a=some (.aM l))(h:Key x)(q:Q (.d<|.bool (!(dH l x).isSome)) O):gF c k (jY .NotIn) (.d x) (.ref a) O Q:= .mk λA B R s z j r S m p=>by rw[show j= .ref a from p];calc af<|Mg g h r S m<|ap ⟨B,O,.d<|.bool _,Look.le_refl B,S.toks _,rfl,q⟩
end
section
section
variable{prog:eN}{w:bR}{A:cj}{E:Value->aA->Prop}{s:aA}
theorem zM{Q:α->aA->Prop}{it:Addr}{h:Heap}{f:Unit->Sem α}(hh:A.handled=none)(hk:yW it h s.heap)(g:∀h' e,yW it h h'->(∃o,h'.get? e=some o/\o.cls= .type "StopIteration")->E (.ref e) {s with heap:=h'}):ao (aO prog w) A ((do HW (<-Db (.type "StopIteration") []):Sem α)) Q E s:=by
 show ao _ _ (Db (.type "StopIteration") []>>=_) _ _ _;calc af ?_;simp only[Db,newTuple];calc af<|nX (af (m:=firstArgMember _ _)<|yY (a:=ga) (by first|rfl|(simp only[firstArgMember];rfl))<|nX ?_<|by size_fits) (by size_fits);unfold HW;refine af<|wpAny_handled ?_
 first|rw[show A.in1.handled=none from hh]|rw[hh]
 calc af<|ap<|wpAny_throw<|g _ _ ((hk.push _).push _) ⟨_,dy _ rfl,rfl⟩
theorem xQ(g:s.heap.get? it=some (dq t i))(m:s.heap.IsTuple t items)(p:items[i]? =some x)(q:∀h',h'.get? it=some (dq t<|i+1)->lU it s.heap h'->Q x {s with heap:=h'}):ao (aO prog w) A (qm<|.ref it) Q E s:=by obtain⟨r,h,_,nl,j⟩:=m;have l:s.TypeIs (.ref it) "tuple_iterator":=⟨_,g,rfl⟩;unfold qm;calc af<|jW (name:=ak "__next__") l Gk<|eL Gk l E0 ?_<|D9 _;show ao _ _ (qC (.ref it) 0>>=_) _ _ s;calc af<|iw g rfl (x:= .ref t) rfl ?_;show ao _ _ (if(lY t==ga)=true then _ else _) _ _ s;calc cw rfl ?_;show ao _ _ (qC (.ref it) 1>>=_) _ _ s;calc af<|iw g rfl (x:= .int i 0) rfl ?_;show ao _ _ (CP (.ref t)>>=_) _ _ s;calc af<|lx h j ?_;simp only[hH,p];calc af<|qu g rfl (lb rfl)<|ap ⟨x,rfl,ap<|q _ ?_<|dA ..⟩;rw[fK _ g rfl];rfl
theorem Dl{it t:Addr}{i:Nat}{items:Array Value}{Q:Value->aA->Prop}(hh:A.handled=none)(g:s.heap.get? it=some (dq t i))(m:s.heap.IsTuple t items)(p:items[i]? =none)(q:∀h' e,yW it s.heap h'->(∃o,h'.get? e=some o/\o.cls= .type "StopIteration")->E (.ref e) {s with heap:=h'}):ao (aO prog w) A (qm<|.ref it) Q E s:=by obtain⟨r,h,_,nl,j⟩:=m;have l:s.TypeIs (.ref it) "tuple_iterator":=⟨_,g,rfl⟩;unfold qm;calc af<|jW (name:=ak "__next__") l Gk<|eL Gk l E0 ?_<|D9 _;show ao _ _ (qC (.ref it) 0>>=_) _ _ s;calc af<|iw g rfl (x:= .ref t) rfl ?_;show ao _ _ (if(lY t==ga)=true then _ else _) _ _ s;calc cw rfl ?_;show ao _ _ (qC (.ref it) 1>>=_) _ _ s;calc af<|iw g rfl (x:= .int i 0) rfl ?_;show ao _ _ (CP (.ref t)>>=_) _ _ s;calc af<|lx h j ?_;simp only[hH,p];calc af<|fq<|af<|qu g rfl (lb rfl)<|zM (f:=λZ=>pure default) hh ((dA ..).extBut) q
end
noncomputable def ii(W:Look)(s:aA):Prop:=∀a o,W a=some o->s.heap.get? a=some o
structure Kept(W:Look)(s s':aA):Prop where
 gens:s'.gens=s.gens
 os:s'.os=s.os
 keep:∀a o,W a=none->s.heap.get? a=some o->s'.heap.get? a=some o
noncomputable def kF(B T:Look):Look:=λa=>match T a with|some o=>some o|none=>B a
theorem merge_le{B T:Look}{h:Heap}(g:∀a o,B a=some o->h.get? a=some o)(j:∀a,T a≠none->h.get? a=none):B.le (kF B T):=λa o e=>by
 unfold kF;cases q:T a with
 |none=>calc e
 |some l=>have:=j a (by rw[q];simp);rw[g a o e] at this;calc cU this
theorem ML(h:B.le B'):(kF B T).le (kF B' T):=λa o e=>by
 unfold kF at e|-;split
 .rename_i q;rw[q] at e;exact e
 .rename_i q;rw[q] at e;calc h a o e
theorem Np(B T:Look):T.le (kF B T):=λa o e=>by unfold kF;rw[e]
inductive Uk (c:Cx) (W B:Look) (P:Look->Look->Prop) (x:PV) (v:Value) (s s':aA):Prop
 |mk (W' T:Look) (hk:Kept W s s') (hs:∀a,W' a≠none->W a≠none) (h1:ii W' s') (h2:ii T s') (h3:∀a,T a≠none->s.heap.get? a=none) (h4:RV c.w (kF B T) x v) (h5:P W'<|kF B T)
noncomputable def ji(c:Cx)(tgt:Expr)(I:Addr):List PV->Look->Look->Prop
 |[],W,B=>∀A s,A.handled=none->ii W s->ii B s->ao (aO c.prog c.w) A (gM<|.ref I) (λr s'=>r=none/\Kept W s s') EF s
 |x::xs,W,B=>∀A s,A.handled=none->ii W s->ii B s->ao (aO c.prog c.w) A (gM<|.ref I) (λr s₁=>∃v,r=some v/\
   ao (aO c.prog c.w) A (wH tgt (.ref I) v) (λZ s'=>Uk c W B (ji c tgt I xs) x v s s') EF s₁) EF s
theorem ji.mono:∀{xs:List PV} {W B B':Look},B.le B'->ji c tgt I xs W B->ji c tgt I xs W B':=by
 intro g;cases g with
 |nil=>
  intro W B B' h it;calc λA s j l m=>it A s j l λa o e=>m a o<|h a o e
 |cons x xs=>
  intro W B B' h it
  exact λA s j l m=>aS (it A s j l λa o e=>m a o<|h a o e) (λr s₁ q=>ai q λv q=>⟨v,q.1,aS q.2 (λZ s' q=>q.rec λW' T hk hs h1 p z C D=>
   ⟨W',T,hk,hs,h1,p,z,C.mono<|ML h,D.mono<|ML h⟩) λZ Z x=>x⟩) λZ Z x=>x
section
variable{c:Cx}{B:Look}{tgt:Expr}
theorem Kept.of(W:Look)(h:W I≠none)(g:s'.gens=s.gens)(o:s'.os=s.os)(k:∀a o,a≠I->s.heap.get? a=some o->s'.heap.get? a=some o):Kept W s s':=⟨g,o,λa ob j e=>k a ob (by rintro rfl;calc h j) e⟩
noncomputable def one(a:Addr)(o:Obj):Look:=λb=>if b=a then some o else none
theorem gv(a:Addr)(o:Obj):one a o a=some o:=by unfold one;simp
theorem oB(h:s.heap.get? a=some o):ii (one a o) s:=λb ob e=>by
 unfold one at e;split at e
 .cases e;subst_vars;exact h
 .exact bp e
theorem one_sub:∀b,one a g b≠none->one a o b≠none:=λb h=>by
 unfold one at h|-;split
 .exact sn
 .rename_i q;rw[if_neg q] at h;calc absurd rfl h
theorem WO(g:s.heap.get? I=some o)(h:∀n,o.cls= .type n->["enumerate","zip","dict_itemiterator","dict_reverseitemiterator","odict_iterator","itertools.zip_longest","itertools.pairwise"].contains n=false)(q:Q () s):ao M A (wH (.Tuple es b p) (.ref I) v) Q E s:=by cases v<;>first|calc ap q|skip;calc af<|PY g ?_;obtain⟨k,_,d,_⟩:=o;clear g;cases k<;>first|calc ap q|skip;cases d<;>first|calc ap q|skip;calc cw ?_<|ap q;rw[h _ rfl,Bool.false_and];rfl
theorem Az(g:s.heap.get? I=some o)(h:∀n,o.cls= .type n->["enumerate","zip","dict_itemiterator","dict_reverseitemiterator","odict_iterator","itertools.zip_longest","itertools.pairwise"].contains n=false)(q:Q () s):ao M A (wH tgt (.ref I) v) Q E s:=by cases tgt<;>first|calc ap q|calc WO (es:=[]) (b:=0) (p:=default) g h q
theorem TX(T:B l=some o)(hc:o.cls= .type "list")(hd:o.data= .seq items e):∀(xs:List Dt) (i:Nat) (m:Obj),m.cls= .type "list_iterator"->m.data= .fields #[.ref l,.int i 0]->aT c.w B xs (items.toList.drop i)->ji c tgt I (xs.map .d) (one I m) B:=by
 intro z;induction z with
 |nil=>
  intro i m h1 C h
  exact λA s U D g=>by
   have H:items[i]? =none:=by have:items.toList.drop i=[]:=h;rw[<-fj];rw[BP] at this;exact qp this
   calc P1 U ⟨_,(D _ _<|gv ..),h1,C⟩ ⟨o,g _ _ T,hc,e,hd⟩ H λh' J=>⟨rfl,Kept.of _ (I:=I) (by rw[gv];simp) rfl rfl λa ob j e=>J a ob j e⟩
 |cons x xs Z=>
  intro i m h1 C L;obtain⟨v,vs,h0,hv,hs⟩:=L
  exact λA s U D g=>by
   have H:items[i]? =some v:=by have:=congrArg (·[0]?) h0;simpa using this
   have N:vs=items.toList.drop (i+1):=by simpa using(congrArg um h0).symm
   calc N3 ⟨_,(D _ _<|gv ..),h1,C⟩ ⟨o,g _ _ T,hc,e,hd⟩ H λh' p P=>⟨v,rfl,?_⟩;obtain⟨X,q,r,S⟩:=p;calc Az q (λn Y=>by rw[r] at Y;cases Y;decide) ⟨one I X,λ_=>none,Kept.of _ (I:=I) (by rw[gv];simp) rfl rfl λa ob j e=>P.extBut a ob j e,one_sub,oB q,(λ_ _ e=>by calc bp e),(λ_ e=>absurd rfl e),hv,Z (i+1) X r S<|N▸hs⟩
theorem C5(T:B l=some o)(hc:o.cls= .type "tuple")(hd:o.data= .seq items e):∀(xs:List Dt) (i:Nat) (m:Obj),m.cls= .type "tuple_iterator"->m.data= .fields #[.ref l,.int i 0]->aT c.w B xs (items.toList.drop i)->ji c tgt I (xs.map .d) (one I m) B:=by
 intro z;induction z with
 |nil=>
  intro i m h1 C h
  exact λA s U D g=>by
   have H:items[i]? =none:=by have:items.toList.drop i=[]:=h;rw[<-fj];rw[BP] at this;exact qp this
   calc wpAny_pyNext_tuple_end U ⟨_,(D _ _<|gv ..),h1,C⟩ ⟨o,g _ _ T,hc,e,hd⟩ H λh' J=>⟨rfl,Kept.of _ (I:=I) (by rw[gv];simp) rfl rfl λa ob j e=>J a ob j e⟩
 |cons x xs Z=>
  intro i m h1 C L;obtain⟨v,vs,h0,hv,hs⟩:=L
  exact λA s U D g=>by
   have H:items[i]? =some v:=by have:=congrArg (·[0]?) h0;simpa using this
   have N:vs=items.toList.drop (i+1):=by simpa using(congrArg um h0).symm
   calc wpAny_pyNext_tuple_item ⟨_,(D _ _<|gv ..),h1,C⟩ ⟨o,g _ _ T,hc,e,hd⟩ H λh' p P=>⟨v,rfl,?_⟩;obtain⟨X,q,r,S⟩:=p;calc Az q (λn Y=>by rw[r] at Y;cases Y;decide) ⟨one I X,λ_=>none,Kept.of _ (I:=I) (by rw[gv];simp) rfl rfl λa ob j e=>P.extBut a ob j e,one_sub,oB q,(λ_ _ e=>by calc bp e),(λ_ e=>absurd rfl e),hv,Z (i+1) X r S<|N▸hs⟩
noncomputable def iota(a:Int):Nat->List Int
 |0=>[]
 |n+1=>a::iota (a+1) n
noncomputable def wo(a n:Int):Obj:={cls:= .type "range_iterator",dict:=none,data:= .fields #[cF a,cF n,cF 1],slots:=#[]}
theorem Ry:∀(n:Nat) (a:Int),ji c tgt I ((iota a n).map λi=> .d<|.int i) (one I<|wo a n) B:=by
 intro j;induction j with
 |zero=>
  intro a;calc λA s z l p=>by calc wpAny_pyNext_range_end z (l _ _<|gv ..) (Int.le_refl _) λh' q=>⟨rfl,Kept.of _ (I:=I) (by rw[gv];simp) rfl rfl λa ob h e=>q a ob h e⟩
 |succ n C=>
  intro a
  exact λA s z l p=>by
   calc wpAny_pyNext_range_item (l _ _<|gv ..) ((aB 38388347183)) λh' g r=>⟨_,rfl,?_⟩;have g:h'.get? I=some (wo (a+1) n):=by have e:((n+1:Nat):Int) -1=(n:Int):=(aB 0x16f01f124f11f01fb);rw[e] at g;exact g
   calc Az g (λm D=>by cases D;decide) ⟨one I<|wo (a+1) n,λZ=>none,Kept.of _ (I:=I) (by rw[gv];simp) rfl rfl λa ob h e=>r.extBut a ob h e,one_sub,oB g,(λZ Z e=>by calc bp e),(λZ e=>absurd rfl e),⟨_,rfl⟩,C<|a+1⟩
end
end
section
variable{c:Cx}{k:Nat}{V:Env}{O:al}{ρ:az}
noncomputable def eC(W R:Look):Look:=λa=>match W a with|some o=>some o|none=>R a
noncomputable def Off(W B:Look)(O:al)(R:Look):Prop:=∀a,W a≠none->B a=none/\O a=none/\R a=none
theorem jN(h:W a≠none):eC W R a=W a:=by
 unfold eC;cases q:W a with
 |none=>calc absurd q h
 |some o=>rfl
theorem ik(h:W a=none):eC W R a=R a:=by unfold eC;rw[h]
theorem Sat.eC(S:Sat c B O R s)(j:ii W s)(g:Off W B O R):Sat c B O (eC W R) s where
 kb:=S.kb
 fb:=S.fb
 fr:=λa o e=>by
  by_cases h:W a=none
  .rw[ik h] at e;exact S.fr a o e
  .rw[jN h] at e;exact j a o e
 fm:=S.fm
 br:=λa o e=>by
  by_cases h:W a=none
  .rw[ik h];exact S.br a o e
  .rw[(g a h).1] at e;exact bp e
 bm:=S.bm
 rm:=λa o e=>by
  by_cases h:W a=none
  .rw[ik h] at e;exact S.rm a o e
  .exact(g a h).2.1
 gens:=S.gens
 os:=S.os
theorem Sat.RD(S:Sat c B O (Internal.eC W R) s)(h:∀a,W a≠none->R a=none):Sat c B O R s:=S.sC λa o e=>by
  by_cases g:W a=none
  .rw[ik g];exact e
  .rw[h a g] at e;calc bp e
theorem Loc.eC(L:Loc c V ρ B R)(h:∀a,W a≠none->R a=none):Loc c V ρ B (eC W R):=by
 have up:∀a o,R a=some o->Internal.eC W R a=some o:=λa o e=>by
  by_cases g:W a=none
  .rw[ik g];exact e
  .rw[h a g] at e;exact bp e
 calc L.on λa o Z=>up a o
theorem Loc.inR(L:Loc c V ρ B R)(h:eD V a):R a≠none:=by
 rcases h with rfl|⟨x,hk,j⟩
 .refine gz L.ns λo es e g=>aw g λh1 Z=>?_;rw[h1];simp
 .refine aE (L.cell x a hk j) λo v g=>aw g λh1 Z=>?_;rw[h1];simp
theorem Sat.step(S:Sat c B O (Internal.eC W R) s)(l:∀a,W a≠none->R a=none)(K:Kept W s s')(z:∀a,W' a≠none->W a≠none)(H:ii W' s')(J:ii T s')(hf:∀a,T a≠none->s.heap.get? a=none):Sat c (kF B T) O (Internal.eC W' R) s':=by
 have L:∀a,W a≠none->Internal.eC W R a≠none:=λa h=>by rw[jN h];exact h
 have N:∀a o,B a=some o->s'.heap.get? a=some o:=λa o e=>K.keep a o (by
  cases q:W a with
  |none=>rfl
  |some p=>have:=S.br a o e;rw[jN (by rw[q];simp),q] at this;calc cU this) (S.fb a o e)
 have r:∀a,T a≠none->B a=none/\O a=none/\R a=none/\W a=none:=λa h=>by
  have D:=hf a h;refine cx (S.qK D) (S.qf D) ?_ ?_
  .have:=S.pG D;by_cases j:W a=none
   .rwa [ik j] at this
   .exact l a j
  .have:=S.pG D;by_cases j:W a=none
   .exact j
   .rw[jN j] at this;exact absurd this j
 refine⟨λa o e=>?_,λa o e=>?_,λa o e=>?_,λa m e=>?_,λa o e=>?_,λa o e=>?_,λa o e=>?_,K.gens.trans S.gens,K.os.trans S.os⟩
 .have:=S.kb a o e
  unfold kF;cases q:T a with
  |none=>calc this
  |some p=>have h:=(r a<|by rw[q];simp).1;rw[h] at this;exact bp this
 .unfold kF at e
  cases q:T a with
  |none=>rw[q] at e;calc N a o e
  |some p=>rw[q] at e;cases e;exact J a _ q
 .by_cases j:W' a=none
  .rw[ik j] at e
   have g:W a=none:=by
    by_cases h:W a=none
    .exact h
    .rw[l a h] at e;exact bp e
   exact K.keep a o g<|S.fr a o<|by rw[ik g];exact e
  .rw[jN j] at e;exact H a o e
 .refine ai (S.fm a m e) λo I=>aw I λh1 P=>?_
  have g:W a=none:=by
   by_cases h:W a=none
   .exact h
   .refine ai (tM.mp h) λp C=>?_;have:=S.rm a p (by rw[jN h];calc C);rw[e] at this;exact cU this
  exact⟨o,K.keep a o g h1,P.mono<|merge_le S.fb hf⟩
 .by_cases j:W' a=none
  .rw[ik j]
   unfold kF at e;cases q:T a with
   |none=>
    rw[q] at e;have:=S.br a o e;by_cases h:W a=none
    .rwa [ik h] at this
    .exact l a h
   |some p=>exact(r a<|by rw[q];simp).2.2.1
  .have g:=z a j
   unfold kF at e;cases q:T a with
   |none=>rw[q] at e;have:=S.br a o e;rw[jN g] at this;calc absurd this g
   |some p=>exact absurd (r a<|by rw[q];simp).2.2.2 g
 .unfold kF at e
  cases q:T a with
  |none=>rw[q] at e;calc S.bm a o e
  |some p=>exact(r a<|by rw[q];simp).2.1
 .by_cases j:W' a=none
  .rw[ik j] at e
   have g:W a=none:=by
    by_cases h:W a=none
    .exact h
    .rw[l a h] at e;exact bp e
   exact S.rm a o<|by rw[ik g];exact e
  .have g:=z a j;calc ai (tM.mp g) λp C=>S.rm a p<|by rw[jN g];calc C
noncomputable def Lp(I:List PV->al->az->Prop)(Q:Fl->al->az->Prop)(xs:List PV):Fl->al->az->Prop
 | .next,O,ρ=>I xs O ρ
 | .ret v,O,ρ=>Q (.ret v) O ρ
@[reducible] noncomputable def mu (c:Cx) (k:Nat) (V:Env) (body:List Stmt) (Q:Fl->al->az->Prop):al->az->Prop:=λO ρ=>WB c k V ρ body O Q
inductive uY (c:Cx) (tgt:Expr) (P:List PV->al->Prop) (B R:Look) (it:Value) (s:aA):Prop
 |mk (B':Look) (ah:al) (W:Look) (I:Addr) (xs:List PV) (e:it= .ref I) (l:B.le B') (S:Sat c B' ah R s) (hW:ii W s) (ho:Off W B' ah R) (h:ji c tgt I xs W B')
  (hi:∀A s,ii W s->ao (aO c.prog c.w) A (mc<|.ref I) (λv s'=>v= .ref I/\s'=s) EF s) (q:P xs ah)
structure ky(c:Cx)(k:Nat)(V:Env)(ρ:az)(e tgt:Expr)(O:al)(P:List PV->al->Prop):Prop where
 go:∀A B R s,cP k A->Sat c B O R s->Loc c V ρ B R->ao (aO c.prog c.w) A (eval e V) (λx s₁=>ao (aO c.prog c.w) A (mc x) (uY c tgt P B R) EF s₁) EF s
inductive oQ (c:Cx) (k:Nat) (V:Env) (ρ:az) (target:Expr) (body:List Stmt) (Q:Fl->al->az->Prop) (xs:List PV) (O:al):Prop
 |mk (I:List PV->al->az->Prop) (h0:I xs O ρ) (step:∀x xs O ρ (Q':Fl->al->az->Prop),(∀fl O ρ,Lp I Q xs fl O ρ->Q' fl O ρ)->I (x::xs) O ρ->cW c k V ρ target x O (mu c k V body Q'))
  (fin:∀O ρ,I [] O ρ->Q .next O ρ)
inductive KC (f:List Dt->Dt) (P:List PV->al->Prop) (p:PV) (O:al):Prop
 |mk (l:List Dt) (e:p= .d (f l)) (q:P (l.map .d) O)
theorem kC(h:ao M A m Q EF s):ao M A m Q E s:=aS h (λZ Z x=>x) λZ Z x=>x.elim
inductive Ug (c:Cx) (V:Env) (target:Expr) (I:Addr) (B R:Look) (J:List PV->al->az->Prop) (n:Nat) (s':aA):Prop
 |mk (B₁:Look) (μ₁:al) (R₁:Look) (ρ₁:az) (W₁:Look) (xs:List PV) (e:n=xs.length) (l:B.le B₁) (S:Sat c B₁ μ₁ (eC W₁ R₁) s') (hd:∀a,W₁ a≠none->R₁ a=none) (hr:∀a,¬eD V a->R₁ a=R a) (L:Loc c V ρ₁ B₁ R₁)
  (hW:ii W₁ s') (h:ji c target I xs W₁ B₁) (hJ:J xs μ₁ ρ₁)
theorem gD(hs:∀x,sa b3 V x=pure x)(h:ky c k V ρ b3 j O<|oQ c k V ρ j body Q):WS c k V ρ (.For j b3 body [] f3) O Q:= .mk λA B R s r S L=>by
 calc wpAny_For (aS (h.1 A B R s r S L) (λx s₁ h₁=>aS h₁ (λit s₂ c9=>?_) λ_ _ x=>x) λ_ _ x=>x) hs;obtain⟨d0,gx,d1,I,Z,rfl,b4,d2,a0,b5,c3,_,J,hJ,c4,d3⟩:=c9
 have main:lz (aO c.prog c.w) A (.forLoop j (.ref I) body [] V) (λr s'=>match r with| .ok f=>nG c V Q B R f s'| .error e=>False) s₂:=by
  calc codeAny_forLoop_any (Ug c V j I B R J) ?_ Z.length ⟨d0,gx,R,ρ,d1,Z,rfl,b4,d2.eC a0 b5,λa h=>(b5 a h).2.2,λ_ _=>rfl,L.mono b4,a0,c3,hJ⟩;rintro n s' ⟨d4,a1,P,a2,f1,xs,rfl,l₁,m,q,C,a3,a5,a6,a7⟩;cases xs with
  |nil=>
   calc kC<|aS (a6 A s' r.handled a5 m.fb) (λrr e7 hh=>?_) λ_ _ x=>x;have a8:=hh.1;have K:=hh.2;clear hh;subst a8;calc Ph ⟨d4,a1,P,a2,.next,l₁,C,(m.step (W':=λ_=>none) (T:=λ_=>none) q K (λ_ h=>absurd rfl h) (λ_ _ e=>by calc bp e) (λ_ _ e=>by calc bp e) λ_ h=>absurd rfl h),a3,rfl,d3 _ _ a7⟩
  |cons x xs=>
   calc kC<|aS (a6 A s' r.handled a5 m.fb) (λrr e7 hh=>ai hh λv a8=>?_) λ_ _ x=>x;have e8:=a8.1;have hg:=a8.2;clear a8 hh;subst e8;calc kC<|aS hg (λ_ d5 hh=>?_) λ_ _ x=>x;obtain⟨g,T,K,b6,c5,hT,hf,rx,c6⟩:=hh;have a9:=merge_le m.fb hf;have D:∀a,g a≠none->P a=none:=λa h=>q a<|b6 a h;calc kC<|aS ((c4 x xs a1 a2 _ (λ_ _ _ h=>h) a7).1 A _ (eC g P) d5 v r (m.step q K b6 c5 hT hf) ((a3.mono a9).eC D) rx) (λ_ d6 hh=>?_) λ_ _ x=>x;obtain⟨d7,e9,d8,f0,b7,c7,d9,e0,e4⟩:=hh;calc kC<|aS (e4.1 A d7 d8 d6 r d9 e0) (λf f2 hh=>?_) λ_ _ x=>x;obtain⟨U,b0,X,H,fl,b8,c8,Y,e5,rf,b9⟩:=hh;have c0:B.le U:=Look.le_trans l₁<|Look.le_trans a9<|Look.le_trans b7 b8;have c1:∀a,g a≠none->¬eD V a:=λa h hF=>a3.inR hF<|D a h;have b1:∀a,¬eD V a->X a=eC g P a:=λa ha=>(c8 a ha).trans<|c7 a λh=>ha h.pI;let l:Look:=λa=>if g a=none then X a else none
   have e6:X=eC g l:=by
    funext a;by_cases hw:g a=none
    .rw[ik hw];show _=(if _ then _ else _);rw[if_pos hw]
    .rw[jN hw,b1 a<|c1 a hw,jN hw]
   have N:∀a,g a≠none->l a=none:=λa h=>if_neg h
   have b2:∀a,¬eD V a->l a=R a:=λa ha=>by
    by_cases hw:g a=none
    .show(if _ then _ else _)=_;rw[if_pos hw,b1 a ha,ik hw];exact C a ha
    .rw[N a hw,<-C a ha,D a hw]
   have c2:Loc c V H U l:=by
    have keep:∀a o,eD V a->X a=some o->l a=some o:=λa o hF e=>by show(if _ then _ else _)=_;rw[if_pos (gX λh=>c1 a h hF)];exact e
    exact e5.on keep
   rw[e6] at Y;cases fl with
   |next=>
    rw[show f= .next from rf];calc⟨xs.length,bS _,U,b0,l,H,g,xs,rfl,c0,Y,N,b2,c2,λa o e=>Y.fr a o<|by rw[jN (by rw[e];simp)];calc e,c6.mono<|Look.le_trans b7 b8,b9⟩
   |ret p=>
    obtain⟨v',rfl,rv⟩:=rf;exact⟨U,b0,l,H,.ret p,c0,b2,Y.RD N,c2,⟨v',rfl,rv⟩,b9⟩
 exact lW main λr s' z=>by
  cases r with
  |ok f=>calc z
  |error e=>calc z.elim
theorem eJ(h:WE c k V ρ e O<|KC .lst P):ky c k V ρ e tgt O P:= .mk λA B R s r S L=>by
 calc aS (h.1 A B R s r S L) (λv s₁ h₁=>?_) λZ Z x=>x;obtain⟨z,j,p,l₁,g,C,l,rfl,q⟩:=h₁;obtain⟨a,o,items,e,rfl,D,hc,hd,H⟩:=C;calc Hg (items:=items) ⟨o,g.fb _ _ D,hc,e,hd⟩ ?_;have m:(s₁.heap.push {cls:= .type "list_iterator",data:= .fields #[.ref a,.int 0 0]}).get? s₁.heap.objs.size=some {cls:= .type "list_iterator",data:= .fields #[.ref a,.int 0 0]}:=dy _ rfl;refine⟨z,j,one s₁.heap.objs.size {cls:= .type "list_iterator",data:= .fields #[.ref a,.int 0 0]},s₁.heap.objs.size,l.map .d,rfl,l₁,g.push _,oB m,λb hb=>?_,TX D hc hd l 0 _ rfl rfl H,λA s I=>wpAny_pyIter_listiter (i:=0) ⟨_,I _ _<|gv ..,rfl,rfl⟩ ⟨rfl,rfl⟩,q⟩
 .have:b=s₁.heap.objs.size:=gX λJ=>hb (by unfold one;rw[if_neg J]);clear hb;subst this;calc g.fresh
theorem oq(h:WE c k V ρ e O<|KC .tup P):ky c k V ρ e tgt O P:= .mk λA B R s r S L=>by
 calc aS (h.1 A B R s r S L) (λv s₁ h₁=>?_) λZ Z x=>x;obtain⟨z,j,p,l₁,g,C,l,rfl,q⟩:=h₁;obtain⟨a,o,items,e,rfl,D,hc,hd,H⟩:=C;calc BU (items:=items) ⟨o,g.fb _ _ D,hc,e,hd⟩ ?_;have m:(s₁.heap.push {cls:= .type "tuple_iterator",data:= .fields #[.ref a,.int 0 0]}).get? s₁.heap.objs.size=some {cls:= .type "tuple_iterator",data:= .fields #[.ref a,.int 0 0]}:=dy _ rfl;refine⟨z,j,one s₁.heap.objs.size {cls:= .type "tuple_iterator",data:= .fields #[.ref a,.int 0 0]},s₁.heap.objs.size,l.map .d,rfl,l₁,g.push _,oB m,λb hb=>?_,C5 D hc hd l 0 _ rfl rfl H,λA s I=>wpAny_pyIter_tupleiter (i:=0) ⟨_,I _ _<|gv ..,rfl,rfl⟩ ⟨rfl,rfl⟩,q⟩
 .have:b=s₁.heap.objs.size:=gX λJ=>hb (by unfold one;rw[if_neg J]);clear hb;subst this;calc g.fresh
theorem uY.up(h:B.le B')(x:uY c tgt P B' R it s):uY c tgt P B R it s:=x.rec λm j W I xs e l S a b d f g=>⟨m,j,W,I,xs,e,Look.le_trans h l,S,a,b,d,f,g⟩
structure xw(c:Cx)(k:Nat)(f:Value)(ps:List PV)(tgt:Expr)(O:al)(P:List PV->al->Prop):Prop where
 go:∀A B R s vs,cP k A->Sat c B O R s->bC c.w B ps vs->ao (aO c.prog c.w) A (call f vs) (λx s₁=>ao (aO c.prog c.w) A (mc x) (uY c tgt P B R) EF s₁) EF s
@[reducible] noncomputable def QL (c:Cx) (k:Nat) (f:Value) (tgt:Expr) (P:List PV->al->Prop):List PV->al->Prop:=λg O=>xw c k f g tgt O P
inductive VR (c:Cx) (k:Nat) (V:Env) (ρ:az) (args:List Expr) (tgt:Expr) (P:List PV->al->Prop) (p:PV) (O:al):Prop
 |mk (fv:Value) (e:p= .ex fv) (hf:Callee c fv) (h:jz c k V ρ args O<|QL c k fv tgt P)
theorem mV(he:eval (.Call f args [] g) V=(eval f V>>=λv=>nv g v [] (backTo g<|starEach args V) []))(hs:(starEach args V).all (λx=> !x.1)=true)(h:WE c k V ρ f O<|VR c k V ρ args tgt P):ky c k V ρ (.Call f args [] g) tgt O P:= .mk λA B R s r S L=>by rw[he];calc af<|aS (h.1 A B R s r S L) (λv s₁ h₁=>?_) λ_ _ x=>x;obtain⟨l,N,pf,l₁,m,p,Z,rfl,hf,q⟩:=h₁;rw[show v=Z from p];calc wQ (plain_any hs) (λhp X=>hf.keeps hp X)<|wm hs<|aS (q.1 A l R s₁ g r m<|L.mono l₁) (λvs s₂ z=>?_) λ_ _ x=>x;obtain⟨C,T,ps,l₂,j,D,H⟩:=z;calc⟨j.gy,aS (H.1 A C R s₂ vs r j D) (λx U I=>aS I (λit Y J=>J.up<|Look.le_trans l₁ l₂) λ_ _ x=>x) λ_ _ x=>x⟩
theorem xU(h: -(2^61)<=a/\a<=2^61): -9223372036854775808<=a/\a<9223372036854775808:=⟨yV (by decide) h.1,OF h.2<|by decide⟩
theorem Qm(g: -(2^61)<=a/\a<=2^61)(hb: -(2^61)<=b/\b<=2^61):F3 a b 1=true:=by
 unfold F3 Builtin.Range.rangeFitsLong;rw[rangeSize_one];split<;>simp
 .exact⟨⟨⟨xU g,xU hb⟩,yV (by decide)<|V4 hb.1 g.2,OF (V4 hb.2 g.1)<|by decide⟩,.inr<|xU hb⟩
 .exact⟨xU g,xU hb⟩
theorem KW(S:Sat c B O R s)(m:IsRange s.heap r a b 1 t u v)(p: -(2^61)<=a/\a<=2^61)(hb: -(2^61)<=b/\b<=2^61)(q:P ((iota a (b -a).toNat).map λi=> .d<|.int i) O):ao (aO c.prog c.w) A (mc<|.ref r) (uY c tgt P B R) EF s:=by
 refine wpAny_pyIter_range m (Qm p hb) ?_
 have j:Builtin.Range.rangeSize a b 1=((b -a).toNat:Int):=by
  rw[rangeSize_one];split
  .rename_i h;exact(Int.toNat_of_nonneg<|yL<|Pz h).symm
  .rename_i h;rw[Int.toNat_of_nonpos (Int.sub_nonpos_of_le<|sh.mp h)];rfl
 rw[j];have g:(s.heap.push<|wo a ((b -a).toNat:Int)).get? s.heap.objs.size=some (wo a ((b -a).toNat:Int)):=dy _ rfl;refine⟨B,O,one s.heap.objs.size<|wo a ((b -a).toNat:Int),s.heap.objs.size,_,rfl,Look.le_refl B,S.push _,oB g,λx l=>?_,Ry _ a,λA s z=>wpAny_pyIter_rangeiter (z _ _<|gv ..) ⟨rfl,rfl⟩,q⟩
 .have:x=s.heap.objs.size:=gX λC=>l (by unfold one;rw[if_neg C]);clear l;subst this;calc S.fresh
theorem AU(g: -(2^61)<=a/\a<=2^61)(hb: -(2^61)<=b/\b<=2^61)(q:P ((iota a (b -a).toNat).map λi=> .d<|.int i) O):xw c k (.type "range") [.d (.int a),.d (.int b)] tgt O P:= .mk λA B R s vs r S h=>by obtain⟨v,u,rfl,⟨t1,rfl⟩,t2,rfl⟩:=h.pJ;calc call_range_2<|KW ((S.push _).toks _) (T8 ..) g hb q
theorem xj(hb: -(2^61)<=b/\b<=2^61)(q:P ((iota 0 b.toNat).map λi=> .d<|.int i) O):xw c k (.type "range") [.d (.int b)] tgt O P:= .mk λA B R s vs r S g=>by obtain⟨u,rfl,t2,rfl⟩:=g.un;calc call_range_1<|KW ((S.push _).toks _) (T8 ..) ((dL 0xaf0ef17f12f0ef12f25f17f)) hb<|by simpa using q
theorem Draws.tup(hh:A.handled=none)(it t:Addr)(l:t≠it)(items:Array Value):Draws prog w A it [it,t] items.size (λi v=>items[i]? =some v) (λi h=>h.get? it=some (dq t i)/\h.IsTuple t items) where
 live:=λZ Z st=>⟨_,st.1⟩
 frame:=λZ Z Z st hk=>⟨hk it (.head _) _ st.1,st.2.at λo e=>hk t (.tail _<|.head _) o e⟩
 item:=λi s Q E hi st m=>by calc xQ st.1 st.2 (x:=items[i]) (ct _) λh' g j=>?_;exact m _ h' s.toks (ct _) ⟨g,st.2.extBut j.extBut l⟩ j
 done:=λs Q E st p=>Dl hh st.1 st.2 (by simp) p
theorem Rn(h:∀b,Q b s):ao M A (Z9 v) Q E s:=af<|wpAny_stack_any λZ=>ap<|h _
theorem We(l:Addr)(o:Obj)(items:Array Value)(n:Nat)(hc:o.cls= .type "tuple")(hd:o.data= .seq items n):Meets (jd.«enumerate.__new__» ⟨[.type "enumerate",.ref l],[]⟩) (λZ R s=>s.heap.get? l=some o/\R (.ok<|.ret<|.ref (s.heap.push {cls:= .type "tuple_iterator",data:= .fields #[.ref l,.int 0 0]}).objs.size) {s with heap:=(s.heap.push {cls:= .type "tuple_iterator",data:= .fields #[.ref l,.int 0 0]}).push {cls:= .type "enumerate",data:= .fields #[.none,.bool false,.ref s.heap.objs.size,cF 0,.none,.none]}}):= .of_wp λprog w A R s h=>by obtain⟨hp,g,d,p,os⟩:=s;calc aw h λj h=>?_;have m:=sub_enumerate;have q:Heap.IsTuple (U9 ⟨hp,g,d,p,os⟩) l items:=⟨_,j,hc,n,hd⟩;wp_walk using F4 j,Rn;calc λb=>?_;cases b<;>(wp_walk using F4 j,BU q;calc⟨_,rfl,h⟩)
theorem Xj(j:s.heap.get? l=some o)(hc:o.cls= .type "tuple")(hd:o.data= .seq items n)(h:Q (.ref<|s.heap.objs.size+1) {s with heap:=(s.heap.push<|dq l 0).push {cls:= .type "enumerate",data:= .fields #[.none,.bool false,.ref s.heap.objs.size,cF 0,.none,.none]}}):ao (aO prog w) A (call (.type "enumerate") [.ref l]) Q E s:=by calc callType_new PySem.F.called_enumerate (by decide) (PySem.F.typeCall_enumerate_1 _) (PySem.F.newCall_enumerate_1 _) (λg=>PySem.F.args_object_init_2 g _) PySem.F.entry_enumerate_new (We l o items n hc hd)<|aR j ⟨_,dy _ rfl,rfl⟩ ?_;rw[hV];calc h
noncomputable def two(a:Addr)(o:Obj)(b:Addr)(p:Obj):Look:=λx=>if x=b then some p else if x=a then some o else none
theorem zu(h:a≠b):two a o b p a=some o:=(if_neg h).trans<|if_pos rfl
theorem AF:two a o b p b=some p:=if_pos rfl
theorem Kc(h:two a o b p x≠none):x=a\/x=b:=gX λk=>h<|(if_neg λe=>k<|.inr e).trans<|if_neg λe=>k<|.inl e
theorem Uu(h:x=a\/x=b):two a o b p x≠none:=tL (P:=(·≠none)) (λZ=>sn) λk=>tL (P:=(·≠none)) (λZ=>sn) λl=>(h.elim l k).elim
theorem KS(h1:s.heap.get? a=some o)(g:s.heap.get? b=some p):ii (two a o b p) s:=λx q=>tL (P:=λr=>r=some q->s.heap.get? x=some q) (λk e=>k▸g.trans e) λZ=>tL (P:=λr=>r=some q->s.heap.get? x=some q) (λk e=>k▸h1.trans e) λZ=>bp
noncomputable def qg(it:Addr)(i:Int)(old:Value):Obj:={cls:= .type "enumerate",dict:=none,data:= .fields #[.none,.bool false,.ref it,cF i,.none,old],slots:=#[]}
noncomputable def pairs(i:Nat):List Dt->List PV
 |[]=>[]
 |x::xs=> .d (.tup [.int i,x])::pairs (i+1) xs
theorem Xn(j:e≠it)(hB:B t=some o)(D:t≠it)(L:t≠e)(hc:o.cls= .type "tuple")(hd:o.data= .seq items n):∀(xs:List Dt) (i:Nat) (old:Value),aT c.w B xs (items.toList.drop i)->i+xs.length=items.size->ji c (.Tuple a5 kk tp) e (pairs i xs) (two e (qg it i old) it<|dq t i) B:=by
 intro X;induction X with
 |nil=>
  intro i old h N
  exact λA s Y H m=>by
   have he:IsEnum s.heap e it i old:=H _ _<|zu j;have p:s.heap.get? it=some (dq t i):=H _ _ AF;have hi:i=items.size:=by simpa using N
   clear N h;subst hi;calc wpAny_pyNext_enum_endD (Draws.tup (by calc Y) it t D items) he ⟨p,⟨o,m _ _ hB,hc,n,hd⟩⟩ λh' P=>⟨rfl,rfl,rfl,λa ob g Z=>P a ob (λq=>?_) Z⟩;clear H j P p he D;subst q;rw[AF] at g;calc cU g
 |cons x xs ih=>
  intro i old a0 N;obtain⟨v,vs,h0,hv,hs⟩:=a0
  exact λA s Y H m=>by
   have he:IsEnum s.heap e it i old:=H _ _<|zu j;have p:s.heap.get? it=some (dq t i):=H _ _ AF;have P:items[i]? =some v:=by have:=congrArg (·[0]?) h0;simpa using this
   have a1:i<items.size:=(rS.mp P).1;have a2:vs=items.toList.drop (i+1):=by simpa using(congrArg um h0).symm
   calc wpAny_pyNext_enum_itemD (Draws.tup (by calc Y) it t D items) he ⟨p,⟨o,m _ _ hB,hc,n,hd⟩⟩ a1 j (by simp;calc⟨j,λq=>L q.symm⟩) λy h' tk hy I S hT a6 hk=>⟨_,rfl,?_⟩;rw[P] at hy;cases hy;calc wpAny_letOwnedTupleGo_enum I λa3 r l=>?_;have U:s.heap.objs.size≠e:=Cu<|fN he;have z:a3.get? it=some (dq t<|i+1):=l.extBut _ _ j.symm S.1;have J:s.heap.get? s.heap.objs.size=none:=gA _<|bS _;have ne:∀a,a≠s.heap.objs.size->one s.heap.objs.size {cls:= .type "tuple",data:= .seq #[.int i tk,v]} a=none:=λa h=>by unfold one;rw[if_neg h]
   refine⟨two e (qg it ((i+1:Nat):Int) v) it<|dq t<|i+1,one s.heap.objs.size {cls:= .type "tuple",data:= .seq #[.int i tk,v]},⟨rfl,rfl,λa ob g Z=>?_⟩,λa C=>Uu<|Kc C,KS ?_ z,oB<|l.extBut _ _ U hT,λa C=>?_,?_,?_⟩
   .have h1:a≠e:=λq=>by clear hk H L r l U I he;subst q;rw[zu j] at g;exact cU g
    have h2:a≠it:=λq=>by clear hk z S H j r p I he D;subst q;rw[AF] at g;exact cU g
    exact l.extBut _ _ h1<|hk a ob h1 h2 Z
   .rw[r];rfl
   .have:a=s.heap.objs.size:=gX λh=>C<|ne a h;clear C;subst this;exact J
   .have le:=merge_le (B:=B) (T:=one s.heap.objs.size {cls:= .type "tuple",data:= .seq #[.int i tk,v]}) (h:=s.heap) m λa C=>by
     have:a=s.heap.objs.size:=gX λh=>C<|ne a h;clear C;subst this;exact J
    exact⟨_,_,_,_,rfl,Np _ _ _ _<|gv ..,rfl,rfl,_,_,rfl,⟨_,rfl⟩,_,_,rfl,hv.mono le,rfl⟩
   .refine ji.mono (merge_le (B:=B) (h:=s.heap) m λa C=>?_)<|ih (i+1) v (a2▸hs) (by simp at N;calc(ax 434927719617) N);have:a=s.heap.objs.size:=gX λh=>C<|ne a h;clear C;subst this;calc J
theorem Sl(q:P (pairs 0 l) O):xw c k (.type "enumerate") [.d (.tup l)] (.Tuple C T tp) O P:= .mk λA B R s vs r S I=>by
 calc ai I.un λv g=>?_;have m:=g.1;have J:=g.2;clear g;subst m;obtain⟨t,o,items,n,rfl,D,hc,hd,H⟩:=J;have h:=S.fb _ _ D;calc Xj h hc hd ?_;have z:((s.heap.push<|dq t 0).push<|qg s.heap.objs.size 0 .none).get? (s.heap.objs.size+1)=some (qg s.heap.objs.size 0 .none):=by have:=dy (s.heap.push<|dq t 0) (o:=qg s.heap.objs.size 0 .none) rfl;rwa [hV] at this
 have y:((s.heap.push<|dq t 0).push<|qg s.heap.objs.size 0 .none).get? s.heap.objs.size=some (dq t 0):=bW _<|dy _ rfl;calc wpAny_pyIter_enum (s:={s with heap:=(s.heap.push<|dq t 0).push<|qg s.heap.objs.size 0 .none}) (i:=0) z ?_;have j:t<s.heap.objs.size:=fN h;refine⟨B,O,two (s.heap.objs.size+1) (qg s.heap.objs.size 0 .none) s.heap.objs.size<|dq t 0,s.heap.objs.size+1,_,rfl,Look.le_refl B,((S.push<|dq t 0).push<|qg s.heap.objs.size 0 .none),KS z y,λa L=>?_,Xn (OT _) D (hZ j) (hZ<|tU j) hc hd l 0 .none H<|by rw[<-cu,H.length];simp,λA s' N=>?_,q⟩
 .have p:s.heap.get? a=none:=gA _<|(Kc L).elim (λe=>e▸oa _) λe=>e▸bS _;exact aR (S.qK p) (S.qf p)<|S.pG p
 .exact wpAny_pyIter_enum (i:=0) (old:= .none) (N _ _<|zu<|OT _) ⟨rfl,rfl⟩
theorem eg{a b:Nat}(h: @Ne Nat a b): @Ne Addr a b:=h
theorem bF{n:Nat}(i j:Nat)(h:CV i j=false:=by rfl): @Ne Addr (n+i) (n+j):=λe=>Oi h<|Nat.add_left_cancel e
noncomputable def qJ(n:Nat)(g:Value)(h:Bool):Obj:={cls:= .type "zip",dict:=none,data:= .fields #[g,.bool h,.bool false,.ref<|n+2,.ref (n+3)],slots:=#[]}
structure fY(h:Heap)(n t1 t2:Nat)(f0:Value)(f1:Bool)(i:Nat):Prop where
 a:h.get? n=some (dq t1 i)
 b:h.get? (n+1)=some (dq t2 i)
 ti:h.get? (n+2)=some (eB (.ref n)<|.ref<|n+1)
 to:∃x y,h.get? (n+3)=some (eB x y)
 z:h.get? (n+4)=some (qJ n f0 f1)
section
variable{prog:eN}{w:bR}{A:cj}{E:Value->aA->Prop}{s:aA}
theorem Jr{T:Addr}{a b x:Value}{j:Nat}{Q:Unit->aA->Prop}(g:s.heap.get? T=some (eB a b))(h:∀h',h'.get? T=some {cls:= .type "tuple",data:= .seq<|(#[a,b]:Array Value).setIfInBounds j x}->lU T s.heap h'->Q () {s with heap:=h'}):ao (aO prog w) A (uu T (·.setIfInBounds j x)) Q E s:=wpAny_updateSeq_pair g h
theorem Km{n t1 t2:Nat}{i:Nat}{xs:Array Value}{x y:Value}{Q:Value->aA->Prop}(h1:t1<n)(h2:t2<n)(Z:fY s.heap n t1 t2 .none false i)(a3:s.heap.IsTuple t1 xs)(a5:s.heap.IsTuple t2 ys)(hx:xs[i]? =some x)(hy:ys[i]? =some y)(hQ:∀h',fY h' n t1 t2 (cF s.heap.objs.size) false (i+1)->h'.get? s.heap.objs.size=some (eB x y)->(∀c o,¬(n<=c/\c<=n+4)->s.heap.get? c=some o->h'.get? c=some o)->Q (.ref s.heap.objs.size) {s with heap:=h'}):ao (aO prog w) A (jd.«zip.__next__» ⟨[.ref (n+4)],[]⟩) (λfin s'=>∃v,fin= .done (.ret v)/\Q v s') E s:=by
 obtain⟨za,zb,a0,⟨a,b,a6⟩,zz⟩:=Z;show ao _ _ (qC (.ref<|n+4) 2>>=_) _ _ _;calc af<|iw zz rfl (x:= .bool false) rfl ?_;show ao _ _ (qC (.ref<|n+4) 3>>=_) _ _ _;calc af<|iw zz rfl (x:= .ref<|n+2) rfl<|af<|lx a0 rfl ?_;show ao _ _ (NO (.ref<|n+4)>>=_) _ _ _;calc af ?_;calc af<|iw zz rfl (x:= .none) rfl<|ap<|fM rfl<|af<|fq<|af<|iw zz rfl (x:= .ref<|n+3) rfl<|af<|tS zz (lb rfl) λha P h=>?_;calc af ?_;simp only[OO,OY,qs,Cn];calc af<|af<|PC ?_;show ao _ _ (qm (.ref n)>>=_) _ _ _;calc af<|xQ (s:={s with heap:=ha}) (h.extBut _ _ (bF 0 4) za) (a3.extBut h.extBut<|eg<|uO h1) hx λhb S m=>ap ?_;have r:hb.get? (n+3)=some (eB a b):=m.extBut _ _ (bF 3 0)<|h.extBut _ _ (bF 3 4) a6;calc af<|lx (o:=eB a b) r rfl<|af<|Jr r λhc L p=>?_;calc af<|CE<|ap<|af<|af<|PC ?_;show ao _ _ (qm (.ref<|n+1)>>=_) _ _ _;have T:∀c o,c≠n+4->c≠n->c≠n+3->s.heap.get? c=some o->hc.get? c=some o:=λc o c1 c2 c3 e=>p.extBut _ _ c3<|m.extBut _ _ c2<|h.extBut _ _ c1 e;calc af<|xQ (s:={s with heap:=hc}) (T _ _ (bF 1 4) (bF 1 0) (bF 1 3) zb) (a5.at λo e=>T _ o (eg<|uO h2) (eg<|(aq 224597809) h2) (eg<|(aq 0xd640cf31731) h2) e) hy λhd U j=>ap ?_;have z:hd.get? (n+3)=some (eB x b):=j.extBut _ _ (bF 3 1) L;calc af<|lx (o:=eB x b) z rfl<|af<|Jr z λhe g l=>?_;have g:he.get? (n+3)=some (eB x y):=g;calc af<|CE<|ap<|ap<|af<|lx (o:=eB x y) g rfl<|af<|Hx ?_;have a1:he.objs.size=s.heap.objs.size:=by rw[l.1,j.1,p.1,m.1,h.1]
 have a2:∀c o,c≠n+4->c≠n->c≠n+1->c≠n+3->s.heap.get? c=some o->he.get? c=some o:=λc o c1 c2 c3 c4 e=>l.extBut _ _ c4<|j.extBut _ _ c3<|T c o c1 c2 c4 e;have D:he.get? (n+4)=some (qJ n .ellipsis false):=l.extBut _ _ (bF 4 3)<|j.extBut _ _ (bF 4 1)<|p.extBut _ _ (bF 4 3)<|m.extBut _ _ (bF 4 0) P;have N:n+4<he.objs.size:=fN D;show ao _ _ (Z8 (.ref<|n+4) (.ref he.objs.size)>>=_) _ _ _;calc af ?_;have X:(he.push<|eB x y).get? (n+4)=some (qJ n .ellipsis false):=bW _ D;calc af<|tS X (lb rfl) λa7 Y H=>?_;calc tS Y (lb rfl) λC q I=>?_;have q:C.get? (n+4)=some (qJ n (cF he.objs.size) false):=q;have up:∀c o,c≠n+4->he.get? c=some o->C.get? c=some o:=λc o c1 e=>I.extBut _ _ c1<|H.extBut _ _ c1<|bW _ e;have J:C.get? he.objs.size=some (eB x y):=I.extBut _ _ (Cu N)<|H.extBut _ _ (Cu N)<|dy _ rfl;rw[a1] at q J;calc ap ⟨_,rfl,?_⟩;show Q (.ref he.objs.size) _;rw[a1];calc hQ C ⟨up _ _ (bF 0 4)<|l.extBut _ _ (bF 0 3)<|j.extBut _ _ (bF 0 1)<|p.extBut _ _ (bF 0 3) S,up _ _ (bF 1 4)<|l.extBut _ _ (bF 1 3) U,up _ _ (bF 2 4)<|a2 _ _ (bF 2 4) (bF 2 0) (bF 2 1) (bF 2 3) a0,bv x y<|up _ _ (bF 3 4) g,q⟩ J λc o hc e=>up c o (eg<|sI hc)<|a2 c o (eg<|sI hc) (eg<|(aq 0xd631d0af2402f31213) hc) (eg<|(aq 0xd6c1d0af2402f31213) hc) (eg<|(aq 0xd640cf31d0af2402f31213) hc) e
theorem YK{n t1 t2 i T:Nat}{X:Bool}{xs:Array Value}{x y:Value}{oT:Obj}{Q:Value->aA->Prop}(h1:t1<n)(h2:t2<n)(hT:s.heap.get? T=some oT)(Z:fY s.heap n t1 t2 (cF T) X i)(Y:s.heap.IsTuple t1 xs)(a0:s.heap.IsTuple t2 ys)(hx:xs[i]? =some x)(hy:ys[i]? =some y)(hQ:∀h',fY h' n t1 t2 (cF T) true (i+1)->h'.get? s.heap.objs.size=some (eB x y)->(∀c o,¬(n<=c/\c<=n+4)->s.heap.get? c=some o->h'.get? c=some o)->Q (.ref s.heap.objs.size) {s with heap:=h'}):ao (aO prog w) A (jd.«zip.__next__» ⟨[.ref (n+4)],[]⟩) (λfin s'=>∃v,fin= .done (.ret v)/\Q v s') E s:=by
 obtain⟨za,zb,P,⟨a,b,a1⟩,N⟩:=Z;show ao _ _ (qC (.ref<|n+4) 2>>=_) _ _ _;calc af<|iw N rfl (x:= .bool false) rfl ?_;show ao _ _ (qC (.ref<|n+4) 3>>=_) _ _ _;calc af<|iw N rfl (x:= .ref<|n+2) rfl<|af<|lx P rfl ?_;show ao _ _ (NO (.ref<|n+4)>>=_) _ _ _;calc af ?_;refine af<|iw N rfl (x:=cF T) rfl ?_
 have alive:∀{Q':Option Obj->aA->Prop},Q' (some oT) s->ao (aO prog w) A (HO<|(T:Int).toNat) Q' E s:=λ{Q'} h=>by
  rw[(hH T)];intro Γ p a7;show CY _ _ (.loadIfAlive T .pure) _ _ _ _
  first
   |(rw[<-hT] at h;calc h)
   |(simp only[CY];rw[hT];calc h)
 show ao _ _ (HO ((T:Int).toNat)>>=_) _ _ _;refine af<|alive<|aS (Q:=λ(a:Bool) s'=>a=false/\∃r,s'={s with heap:=r}/\r.get? (n+4)=some (qJ n (cF T) true)/\(∀c o,@Ne Nat c (n+4)->s.heap.get? c=some o->r.get? c=some o)/\r.objs.size=s.heap.objs.size) (E:=E) ?_ ?_ λ_ _ x=>x
 .refine cw rfl<|af<|iw N rfl (x:= .bool X) rfl ?_
  cases X with
  |true=>
   calc cw rfl<|ap ⟨rfl,⟨s.heap,cx rfl N (λ_ _ _ e=>e) rfl⟩⟩
  |false=>
   exact fM rfl<|af<|tS N (lb rfl) λr j q=>ap ⟨rfl,⟨r,cx rfl j (λc o hc e=>q.extBut _ _ hc e) q.1⟩⟩
 intro _ _ C;have a2:=C.1;have S:=C.2;calc ai S λr U=>bV U λa3 j l a5=>?_;clear S U C;subst a2;subst a3;dsimp only;calc cw rfl<|af ?_;rw[<-GO];simp only[qs,Cn];calc af<|af<|co ?_;show ao _ _ (qm (.ref n)>>=_) _ _ _;calc af<|xQ (s:={s with heap:=r}) (l _ _ (bF 0 4) za) (Y.at λo e=>l _ o (eg<|uO h1) e) hx λhb D m=>ap<|ap ?_;dsimp only;calc af<|af<|co ?_;show ao _ _ (qm (.ref<|n+1)>>=_) _ _ _;have H:∀c o,@Ne Nat c (n+4)->@Ne Nat c n->s.heap.get? c=some o->hb.get? c=some o:=λc o c1 c2 e=>m.extBut _ _ c2<|l c o c1 e;calc af<|xQ (s:={s with heap:=hb}) (H _ _ (bF 1 4) (bF 1 0) zb) (a0.at λo e=>H _ o (eg<|uO h2) (eg<|(aq 224597809) h2) e) hy λhc I g=>ap<|ap<|ap ?_;dsimp only;calc af<|Hx (ap ⟨_,rfl,?_⟩) (by rw[dO];simp);have a6:hc.objs.size=s.heap.objs.size:=by rw[g.1,m.1,a5]
 have J:∀c o,@Ne Nat c (n+4)->@Ne Nat c n->@Ne Nat c (n+1)->s.heap.get? c=some o->(hc.push<|eB x y).get? c=some o:=λc o c1 c2 c3 e=>bW _<|g.extBut _ _ c3<|H c o c1 c2 e;show Q (.ref hc.objs.size) {s with heap:=hc.push<|eB x y};have z:(hc.push<|eB x y).get? hc.objs.size=some (eB x y):=dy _ rfl;rw[a6] at z|-;calc hQ _ ⟨bW _<|g.extBut _ _ (bF 0 1) D,bW _ I,J _ _ (bF 2 4) (bF 2 0) (bF 2 1) P,bv a b<|J _ _ (bF 3 4) (bF 3 0) (bF 3 1) a1,bW _<|g.extBut _ _ (bF 4 1)<|m.extBut _ _ (bF 4 0) j⟩ z λc o L e=>J c o (eg<|sI L) (eg<|(aq 0xd631d0af2402f31213) L) (eg<|(aq 0xd6c1d0af2402f31213) L) e
theorem IJ{n t1 t2:Nat}{i:Nat}{U:Value}{S:Bool}{xs:Array Value}{oT:Obj}{Q:Fin->aA->Prop}(h1:t1<n)(h2:t2<n)(hh:A.handled=none)(Z:fY s.heap n t1 t2 U S i)(hf:(U= .none/\S=false)\/∃T,U=cF (T:Nat)/\s.heap.get? T=some oT)(J:s.heap.IsTuple t1 xs)(hx:xs[i]? =none)(hE:∀h' e,(∀c o,¬(n<=c/\c<=n+4)->s.heap.get? c=some o->h'.get? c=some o)->(∃o,h'.get? e=some o/\o.cls= .type "StopIteration")->E (.ref e) {s with heap:=h'}):ao (aO prog w) A (jd.«zip.__next__» ⟨[.ref (n+4)],[]⟩) Q E s:=by
 obtain⟨za,zb,X,⟨a,b,a2⟩,C⟩:=Z;show ao _ _ (qC (.ref<|n+4) 2>>=_) _ _ _;calc af<|iw C rfl (x:= .bool false) rfl ?_;show ao _ _ (qC (.ref<|n+4) 3>>=_) _ _ _;calc af<|iw C rfl (x:= .ref<|n+2) rfl<|af<|lx X rfl ?_;show ao _ _ (NO (.ref<|n+4)>>=_) _ _ _;calc af ?_;rcases hf with⟨rfl,rfl⟩|⟨T,rfl,hT⟩
 .refine af<|iw C rfl (x:= .none) rfl<|ap<|fM rfl<|af<|fq<|af<|iw C rfl (x:= .ref<|n+3) rfl<|af<|tS C (lb rfl) λD q g=>?_
  calc af ?_;simp only[OO,OY,qs,Cn];calc af<|af<|PC ?_;show ao _ _ (qm (.ref n)>>=_) _ _ _;calc af<|Dl (s:={s with heap:=D}) hh (g.extBut _ _ (bF 0 4) za) (J.extBut g.extBut<|eg<|uO h1) hx λhb e j he=>ai he λoe m=>?_;have H:=m.1;have L:=m.2;have r:hb.get? (n+4)=some (qJ n .ellipsis false):=j _ _ (bF 4 0) q;have Y:e≠n+4:=λx=>by clear he;subst x;rw[r] at H;cases H;simp[qJ] at L
  refine tS r (lb rfl) λN _ z=>hE N e (λc o hc x=>z.extBut _ _ (eg<|sI hc)<|j _ _ (eg<|(aq 0xd631d0af2402f31213) hc)<|g.extBut _ _ (eg<|sI hc) x) ⟨oe,z.extBut _ _ Y H,L⟩
 .refine af<|iw C rfl (x:=cF T) rfl ?_
  have alive:∀{Q':Option Obj->aA->Prop},Q' (some oT) s->ao (aO prog w) A (HO<|(T:Int).toNat) Q' E s:=λ{Q'} h=>by
   rw[(hH T)];intro Γ p a3;show CY _ _ (.loadIfAlive T .pure) _ _ _ _
   first
    |(rw[<-hT] at h;calc h)
    |(simp only[CY];rw[hT];calc h)
  show ao _ _ (HO ((T:Int).toNat)>>=_) _ _ _;refine af<|alive<|aS (Q:=λ(a:Bool) s'=>a=false/\∃D,s'={s with heap:=D}/\(∀c o,@Ne Nat c (n+4)->s.heap.get? c=some o->D.get? c=some o)) (E:=E) ?_ ?_ λ_ _ x=>x
  .refine cw rfl<|af<|iw C rfl (x:= .bool S) rfl ?_
   cases S with
   |true=>
    calc cw rfl<|ap ⟨rfl,s.heap,rfl,λ_ _ _ e=>e⟩
   |false=>
    exact fM rfl<|af<|tS C (lb rfl) λD q g=>ap ⟨rfl,D,rfl,λc o hc e=>g.extBut _ _ hc e⟩
  intro _ _ m;have a0:=m.1;have P:=m.2;calc ai P λD I=>?_;have a1:=I.1;have l:=I.2;clear P I m;subst a0;subst a1;dsimp only;calc cw rfl<|af ?_;rw[<-GO];simp only[qs,Cn];calc af<|af<|co ?_;show ao _ _ (qm (.ref n)>>=_) _ _ _;calc af<|Dl (s:={s with heap:=D}) hh (l _ _ (bF 0 4) za) (J.at λo e=>l _ o (eg<|uO h1) e) hx λhb e j he=>hE hb e (λc o hc x=>j _ _ (eg<|(aq 0xd631d0af2402f31213) hc)<|l _ _ (eg<|sI hc) x) he
end
theorem DM{h:Heap}{t1 t2:Addr}:FZ h t1 t2=h.objs.size+4/\fY (zh h t1 t2) h.objs.size t1 t2 .none false 0/\∀c o,h.get? c=some o->(zh h t1 t2).get? c=some o:=by
 have z1:(h.push<|dq t1 0).objs.size=h.objs.size+1:=hV ..;have z2:((h.push<|dq t1 0).push<|dq t2 0).objs.size=h.objs.size+2:=by rw[hV,z1]
 have g:(((h.push<|dq t1 0).push<|dq t2 0).push<|eB (.ref h.objs.size)<|.ref (h.push<|dq t1 0).objs.size).objs.size=h.objs.size+3:=by rw[hV,z2]
 have j:FZ h t1 t2=h.objs.size+4:=by show Array.size _=_;rw[hV,g]
 refine aR j ⟨?_,?_,?_,bv (.none) (.none) ?_,?_⟩ λc o e=>bW _<|bW _<|bW _<|bW _<|bW _ e
 .exact bW _<|bW _<|bW _<|bW _<|dy _ rfl
 .rw[<-z1];exact bW _<|bW _<|bW _<|dy _ rfl
 .rw[<-z2,<-z1];exact bW _<|bW _<|dy _ rfl
 .rw[<-g];exact bW _<|dy _ rfl
 .rw[<-j]
  have e:qJ h.objs.size .none false={cls:= .type "zip",data:= .fields #[.none,.bool false,.bool false,.ref ((h.push<|dq t1 0).push<|dq t2 0).objs.size,.ref (((h.push<|dq t1 0).push<|dq t2 0).push<|eB (.ref h.objs.size)<|.ref (h.push<|dq t1 0).objs.size).objs.size]}:=by rw[z2,g];rfl
  rw[e];calc dy _ rfl
section
variable{prog:eN}{w:bR}{A:cj}{E:Value->aA->Prop}{s:aA}
theorem Jc{l1 l2:Addr}{xs:Array Value}{Q:Value->aA->Prop}(g:s.heap.IsTuple l1 xs)(j:s.heap.IsTuple l2 ys)(h:Q (.ref<|s.heap.objs.size+4) {s with heap:=zh s.heap l1 l2}):ao (aO prog w) A (call (.type "zip") [.ref l1,.ref l2]) Q E s:=by calc aN (DM (h:=s.heap) (t1:=l1) (t2:=l2)) λm Z Y=>?_;calc callType_new PySem.F.called_zip (by decide) (PySem.F.typeCall_zip_2 _ _) (PySem.F.newCall_zip_2 _ _) (λl=>PySem.F.args_object_init_3 l _ _) PySem.F.entry_zip_new (SD l1 l2 xs ys)<|aR g j ?_;show _/\_;rw[m];calc⟨⟨_,Z.z,rfl⟩,h⟩
theorem fY.type{n t1 t2:Nat}{g:Value}{h:Bool}{i:Nat}(Z:fY s.heap n t1 t2 g h i):s.TypeIs (.ref<|n+4) "zip":=⟨_,Z.z,rfl⟩
theorem Di{n t1 t2:Nat}{g:Value}{j:Bool}{i:Nat}{Q:Value->aA->Prop}(Z:fY s.heap n t1 t2 g j i)(h:Q (.ref<|n+4) s):ao (aO prog w) A (mc<|.ref<|n+4) Q E s:=by calc Hf Z.type H9<|eL H9 Z.type PySem.F.entry_zip_iter ?_<|PySem.F.args_zip_iter_1 _;show ao _ _ (ret<|.ref<|n+4) _ _ s;calc ap ⟨_,⟨rfl,bv ("zip") _<|aR Z.type rV.lookup h⟩⟩
theorem XU{j:List Expr}{p:Nat}{l:Pos}{n t1 t2 T:Nat}{i:Nat}{Q:Unit->aA->Prop}(Z:fY s.heap n t1 t2 (cF T) false i)(q:∀h',fY h' n t1 t2 .none false i->lU (n+4) s.heap h'->Q () {s with heap:=h'}):ao (aO prog w) A (wH (.Tuple j p l) (.ref<|n+4)<|.ref T) Q E s:=by calc af<|PY Z.z ?_;show ao _ _ (if(["enumerate","zip","dict_itemiterator","dict_reverseitemiterator","odict_iterator","itertools.zip_longest","itertools.pairwise"].contains "zip"&& (#[cF T,.bool false,.bool false,.ref<|n+2,.ref (n+3)]:Array Value)[0]? ==some (cF T))=true then _ else _) Q E s;calc fM (decide_eq_true<|iu.mpr ⟨by decide,beq_self_eq_true<|some<|cF T⟩)<|af<|fq ?_;show ao _ _ (HV (.ref<|n+4) 0 .none) Q E s;calc tS Z.z (lb rfl) λh' m g=>q h' ⟨g.extBut _ _ (bF 0 4) Z.a,g.extBut _ _ (bF 1 4) Z.b,g.extBut _ _ (bF 2 4) Z.ti,aE Z.to λx y h=>bv x y<|g.extBut _ _ (bF 3 4) h,m⟩ g
end
noncomputable def nP(h:Heap)(n:Nat):Look:=λa=>if n<=a/\a<=n+4 then h.get? a else none
theorem No{h:Heap}{n:Nat}{s:aA}(e:s.heap=h):ii (nP h n) s:=λa o x=>by
 unfold nP at x;split at x
 .rw[e];exact x
 .exact bp x
theorem fY.here{h:Heap}{n t1 t2:Nat}{g:Value}{j:Bool}{i:Nat}(Z:fY h n t1 t2 g j i){s:aA}(l:ii (nP h n) s):fY s.heap n t1 t2 g j i:=by have up:∀a o,n<=a->a<=n+4->h.get? a=some o->s.heap.get? a=some o:=λa o h1 m e=>l a o (by unfold nP;rw[if_pos ⟨h1,m⟩];calc e);calc aE Z.to λx y p=>⟨up _ _ (xG) (vg) Z.a,up _ _ (Q8) ((aB 37760795)) Z.b,up _ _ ((aB 37768977)) ((aB 2474691003633)) Z.ti,bv x y<|up _ _ ((aB 37801745)) ((aB 2474691005681)) p,up _ _ (vg) ((aB 2474691003121)) Z.z⟩
theorem fY.FQ{h:Heap}{n t1 t2:Nat}{j:Value}{l:Bool}{i:Nat}(Z:fY h n t1 t2 j l i){a:Nat}(h1:n<=a)(g:a<=n+4):nP h n a≠none:=by
 unfold nP;rw[if_pos ⟨h1,g⟩];calc aE Z.to λx y m=>?_;rcases(by calc(aq 0x1bf1bf1bf1bf6402f31640cf316404f316c16312132402f31) h1 g:a=n\/a=n+1\/a=n+2\/a=n+3\/a=n+4) with rfl|rfl|rfl|rfl|rfl
 .rw[Z.a];simp
 .rw[Z.b];simp
 .rw[Z.ti];simp
 .rw[m];simp
 .rw[Z.z];simp
theorem DT{h:Heap}{n a:Nat}(x:nP h n a≠none):n<=a/\a<=n+4:=gX λg=>x<|by unfold nP;rw[if_neg g]
noncomputable def mX:List Dt->List Dt->List PV
 |x::xs,y::ys=> .d (.tup [x,y])::mX xs ys
 |_,_=>[]
theorem RS{n t1 t2:Nat}{m X:Obj}{xs:Array Value}{e1 e2:Nat}{B:Look}{p:List Expr}{kk:Nat}{tp:Pos}(h1:t1<n)(h2:t2<n)(q:B t1=some m)(Y:B t2=some X)(r:m.cls= .type "tuple")(a0:X.cls= .type "tuple")(C:m.data= .seq xs e1)(a1:X.data= .seq ys e2):∀(us vs:List Dt) (i:Nat) (h:Heap),us.length=vs.length->fY h n t1 t2 .none false i->aT c.w B us (xs.toList.drop i)->aT c.w B vs (ys.toList.drop i)->ji c (.Tuple p kk tp) (n+4) (mX us vs) (nP h n) B:=by
 intro a2;induction a2 with
 |nil=>
  intro a3;cases a3 with
  |nil=>
   intro i h _ Z ru rv
   exact λA s hA hW g=>by
    have l:=Z.here hW;have hx:xs[i]? =none:=by have:xs.toList.drop i=[]:=ru;rw[<-fj];rw[BP] at this;exact qp this
    calc af<|nZ<|jW (name:=ak "__next__") l.type rV<|eL rV l.type Gy (IJ (oT:=default) h1 h2 (hA) l (.inl ⟨rfl,rfl⟩) ⟨m,g _ _ q,r,e1,C⟩ hx λh' e hk he=>?_)<|Gw _;calc ai he λo D=>?_;calc af<|sc (T:="StopIteration") (b:=true) ⟨o,D.1,D.2⟩ Cp<|ap ⟨rfl,rfl,rfl,λa ob hn e=>hk a ob (λhh=>Z.FQ hh.1 hh.2 hn) e⟩
  |cons _ _=>
   intro _ _ H _ _ _;simp at H
 |cons u us ih=>
  intro a5;cases a5 with
  |nil=>
   intro _ _ H _ _ _;simp at H
  |cons v vs=>
   intro i h H Z a6 a7;obtain⟨x,a8,I,rx,a9⟩:=a6;obtain⟨y,b0,J,ry,b1⟩:=a7
   exact λA s hA hW g=>by
    have l:=Z.here hW;have hx:xs[i]? =some x:=by have:=congrArg (·[0]?) I;simpa using this
    have hy:ys[i]? =some y:=by have:=congrArg (·[0]?) J;simpa using this
    have ex:a8=xs.toList.drop (i+1):=by simpa using(congrArg um I).symm
    have ey:b0=ys.toList.drop (i+1):=by simpa using(congrArg um J).symm
    calc af<|nZ<|jW (name:=ak "__next__") l.type rV<|eL rV l.type Gy (Km h1 h2 l ⟨m,g _ _ q,r,e1,C⟩ ⟨X,g _ _ Y,a0,e2,a1⟩ hx hy λh' L hT hk=>ap ⟨_,rfl,?_⟩)<|Gw _;calc XU L λN P j=>?_;have ne:∀a,one s.heap.objs.size (eB x y) a≠none->s.heap.get? a=none:=λa S=>by have:a=s.heap.objs.size:=gX λh=>S (by unfold one;rw[if_neg h]);clear S;subst this;exact(gA _<|bS _)
    have le:=merge_le (B:=B) (T:=one s.heap.objs.size<|eB x y) (h:=s.heap) g ne;refine⟨nP N n,one s.heap.objs.size<|eB x y,⟨rfl,rfl,λa ob hn e=>?_⟩,λa S=>Z.FQ (DT S).1 (DT S).2,No rfl,oB<|j.extBut _ _ (eg<|(aq 0xd6402f3171402f3)<|fN l.z) hT,ne,⟨_,_,_,_,rfl,Np _ _ _ _<|gv ..,rfl,rfl,_,_,rfl,rx.mono le,_,_,rfl,ry.mono le,rfl⟩,ji.mono le<|ih vs (i+1) N (by simpa using H) P (ex▸a9)<|ey▸b1⟩
    .have U:¬(@LE.le Nat _ n a/\@LE.le Nat _ a (n+4)):=λhh=>Z.FQ hh.1 hh.2 hn;calc j.extBut _ _ (eg<|sI U)<|hk a ob U e
theorem Nr{a b:List Dt}{g:List Expr}{X:Nat}{tp:Pos}{P:List PV->al->Prop}(Y:a.length=b.length)(q:P (mX a b) O):xw c k (.type "zip") [.d (.tup a),.d (.tup b)] (.Tuple g X tp) O P:= .mk λA B R s vs r S rv=>by calc aE rv.pJ λv u j=>aN j λI hv hu=>?_;clear j;subst I;obtain⟨t1,o1,xs,e1,rfl,l,m,p,J⟩:=hv;obtain⟨t2,o2,ys,e2,rfl,z,C,D,L⟩:=hu;have T:=S.fb _ _ l;have U:=S.fb _ _ z;calc Jc ⟨o1,T,m,e1,p⟩ ⟨o2,U,C,e2,D⟩<|aN (DM (h:=s.heap) (t1:=t1) (t2:=t2)) λ_ Z hk=>?_;have H:Sat c B O R {s with heap:=zh s.heap t1 t2}:=S.grow rfl rfl hk;calc Di (s:={s with heap:=zh s.heap t1 t2}) Z ⟨B,O,nP (zh s.heap t1 t2) s.heap.objs.size,_,_,rfl,Look.le_refl B,H,No rfl,λx hx=>?_,RS (fN T) (fN U) l z m C p D a b 0 _ Y Z J L,λA s' hW=>Di (Z.here hW) ⟨rfl,rfl⟩,q⟩;have N:s.heap.get? x=none:=gA _ (DT hx).1;calc aR (S.qK N) (S.qf N)<|S.pG N
end
section
variable{c:Cx}{k:Nat}{V:Env}{O:al}{ρ:az}
noncomputable def qW(V:Env):List (Str×jc)->List (Str×Addr)->List (Str×Addr)
 |[],cs=>cs
 |(n,k)::r,cs=>if k== .free then qW V r ((n,(V.cells.lookup n).getD 0)::cs) else qW V r cs
theorem Vw(f:Str×jc->List (Str×Addr)->Sem (ForInStep<|List<|Str×Addr))(hf:∀n k cs,f (n,k) cs=if k== .free then(cellOf V n>>=λa=>pure<|.yield ((n,a)::cs)) else pure<|.yield cs)(names:List<|Str×jc)(g:List<|Str×Addr)(h:∀x∈names,x.2= .free->∃a,V.cells.lookup x.1=some a):forIn names g f=(pure (qW V names g):Sem _):=by
 induction names generalizing g with
 |nil=>rfl
 |cons x r j=>
  have j:=λg=>j g λx m=>h x<|dw _ m;rw[qs,show f x g=_ from hf x.1 x.2 g];show _=pure (if(x.2==nj)=true then _ else _);by_cases hk:(x.2==nj)=true
  .rw[if_pos hk,if_pos hk]
   calc ai (h x dC<|eq_of_beq hk) λa l=>?_;have e:cellOf V x.1=pure a:=by unfold cellOf;rw[l]
   rw[e,l];exact j _
  .rw[if_neg hk,if_neg hk];calc j _
theorem Wf(h:∀x∈scope.names,x.2= .free->∃a,V.cells.lookup x.1=some a):closureFor scope V=pure (qW V scope.names []):=by unfold closureFor;dsimp only;rw[Vw _ (λn k cs=>by cases hk:k==nj<;>simp[hk]) scope.names [] h];rfl
theorem Ed{α:Type}{x n:Str}{v:α}{l:List<|Str×α}(h:(l.lookup x).isSome=true):(((n,v)::l).lookup x).isSome=true:=by
 rw[sb];split
 .rfl
 .exact h
theorem JI{n x:Str}(e:n=x):(((n,v)::l).lookup x).isSome=true:=by rw[e,K5];rfl
theorem zT{d:List<|Str×jc}{x:Str×jc}{n:Str}{k:jc}{P:Prop}(h:(n,k)∈d++[x])(p:(n,k)∈d->P)(q:x=(n,k)->P):P:=(ca.mp h).elim p λh=>q (ci.mp h).symm
theorem WL{I:List (Str×jc)->List (Str×Addr)->Prop}(f:∀d x cs,x∈names->x.2= .free->I d cs->I (d++[x]) ((x.1,(V.cells.lookup x.1).getD 0)::cs))(g:∀d x cs,¬x.2= .free->I d cs->I (d++[x]) cs)(h:I [] []):I names (qW V names []):=by
 have:∀r d cs,names=d++r->I d cs->I names (qW V r cs):=λr=>by
  induction r with
  |nil=>calc λd cs e h=>e.trans (ea d)▸h
  |cons x r j=>
   intro d cs e h;have l:=e.trans<|R6 d x r;show I names<|if(x.2==nj)=true then _ else _;by_cases hk:(x.2==nj)=true
   .rw[if_pos hk];exact j _ _ l<|f d x cs (e▸cn _ dC) (eq_of_beq hk) h
   .rw[if_neg hk];exact j _ _ l<|g d x cs (λe=>hk<|beq_iff_eq.mpr e) h
 calc this names [] [] rfl h
structure Sz(V:Env)(d:List<|Str×jc)(cs:List<|Str×Addr):Prop where
 mem:∀x a,(x,a)∈cs->(x,.free)∈d/\V.cells.lookup x=some a
 has:∀x,(x,.free)∈d->(cs.lookup x).isSome=true
theorem Uj{names:List<|Str×jc}(hh:∀x∈names,x.2= .free->∃a,V.cells.lookup x.1=some a):Sz V names (qW V names []):=WL (λd x cs g hk I=>⟨λy a h=>(dD.mp h).elim (λe=>ai (hh x g hk) λb hb=>by
   rw[hb] at e;rw[(wP e).1,(wP e).2];calc⟨cn _<|hk▸ .head _,hb⟩) λh=>⟨dh _ (I.mem y a h).1,(I.mem y a h).2⟩,λy h=>zT h (λh=>Ed<|I.has y h) λe=>JI<|congrArg CO e⟩)
  (λd x cs hk I=>⟨λy a h=>⟨dh _ (I.mem y a h).1,(I.mem y a h).2⟩,λy h=>zT h (I.has y) λe=>absurd (congrArg zi e) hk⟩) ⟨λZ Z h=>(nomatch h),λZ h=>(nomatch h)⟩
noncomputable def zx:Obj:={cls:= .type "cell",data:= .cell none}
theorem Sx{I:List (Str×jc)->Heap->List (Str×Addr)->Prop}(names:List<|Str×jc)(f:∀d x h cs,x.2= .cell->I d h cs->I (d++[x]) (h.push zx) ((x.1,h.objs.size)::cs))(g:∀d x h cs,¬x.2= .cell->I d h cs->I (d++[x]) h cs){h0:Heap}(h:I [] h0 j):I names (sq h0 names) (ux h0.objs.size names j):=by
 have:∀r d h cs,names=d++r->I d h cs->I names (sq h r) (ux h.objs.size r cs):=λr=>by
  induction r with
  |nil=>calc λd h cs e x=>e.trans (ea d)▸x
  |cons x r l=>
   intro d h cs e X;have m:=e.trans<|R6 d x r;show I names (if(x.2==ud)=true then _ else _)<|if(x.2==ud)=true then _ else _;by_cases hk:(x.2==ud)=true
   .rw[if_pos hk,if_pos hk];exact hV h zx▸l _ _ _ m (f d x h cs (eq_of_beq hk) X)
   .rw[if_neg hk,if_neg hk];exact l _ _ _ m<|g d x h cs (λe=>hk<|beq_iff_eq.mpr e) X
 calc this names [] h0 j rfl h
structure YR(h0:Heap)(c0:List<|Str×Addr)(d:List<|Str×jc)(h:Heap)(cs:List<|Str×Addr):Prop where
 mem:∀x a,(x,a)∈cs->(x,a)∈c0\/((x,.cell)∈d/\h0.objs.size<=a/\h.get? a=some zx)
 has:∀x,(x,ud)∈d\/(c0.lookup x).isSome=true->(cs.lookup x).isSome=true
 lt:h0.objs.size<=h.objs.size/\∀x a,(x,a)∈cs->@zo Nat _ a h.objs.size
 apart:∀x y a,(x,a)∈cs->(y,a)∈cs->x=y
theorem Tn(names:List<|Str×jc){h0:Heap}{g:List<|Str×Addr}(lt:∀x a,(x,a)∈g->@zo Nat _ a h0.objs.size)(apart:∀x y a,(x,a)∈g->(y,a)∈g->x=y):YR h0 g names (sq h0 names) (ux h0.objs.size names g):=Sx names (λd x h cs hk I=>by
  have hd:=λy a (q:(y,a)∈(x.1,h.objs.size)::cs)=>(dD.mp q).imp_left wP;calc⟨λy a q=>(hd y a q).elim (λe=> .inr ⟨cn _<|e.1▸hk▸ .head _,e.2▸I.lt.1,e.2▸dy _ rfl⟩) λq=>(I.mem y a q).imp_right λq=>⟨dh _ q.1,q.2.1,bW _ q.2.2⟩,λy q=>q.elim (λq=>zT q (λq=>Ed<|I.has y<|.inl q) λe=>JI<|congrArg CO e) λq=>Ed<|I.has y<|.inr q,(hV h zx).symm▸⟨nf I.lt.1,λy a q=>(hd y a q).elim (λe=>e.2▸pa _) λq=>tU<|I.lt.2 y a q⟩,λy z a q r=>(hd y a q).elim (λe=>(hd z a r).elim (λj=>e.1.trans j.1.symm) λr=>absurd (e.2▸I.lt.2 z a r)<|Hw _) λq=>(hd z a r).elim (λe=>absurd (e.2▸I.lt.2 y a q)<|Hw _) λr=>I.apart y z a q r⟩)
  (λd x h cs hk I=>⟨λy a q=>(I.mem y a q).imp_right λq=>⟨dh _ q.1,q.2⟩,λy q=>I.has y<|q.imp_left λq=>zT q id λe=>absurd (congrArg zi e) hk,I.lt,I.apart⟩)
  ⟨λZ Z=> .inl,λZ q=>q.elim (λq=>nomatch q) id,⟨bS _,lt⟩,apart⟩
noncomputable def xa:List (Str×jc)->Bool
 |[]=>true
 |(n,_)::r=>(r.all λx=>x.1 !=n)&&xa r
theorem ym(g:xa l=true)(h:(x,kd)∈l):l.lookup x=some kd:=by
 induction l with
 |nil=>calc nomatch h
 |cons y r j=>
  have g:=iu.mp<|show((r.all λz=>z.1 !=y.1)&&xa r)=true from g;calc(dD.mp h).elim (λe=>e▸K5) λh=>?_;rw[show Cv x (y::r)=Cv x r from(sb ..).trans (by rw[beq_eq_false_iff_ne.mpr (bne_iff_ne.mp<|jb.mp g.1 _ h)])];calc j g.2 h
noncomputable def yt(scope g:eb):Bool:=scope.kind== .function&&g.kind== .function&&xa scope.names&&scope.names.all λx=>x.2 != .free||g.names.lookup x.1==some .cell||g.names.lookup x.1==some .free
structure Nv(scope:eb)(V:Env):Prop where
 kind:scope.kind= .function
 nodup:xa scope.names=true
 free:∀x,(x,nj)∈scope.names->V.kindOf x=some .cell\/V.kindOf x=some .free
theorem Qt(h:yt scope V.scope=true):Nv scope V:=by unfold yt at h;simp only[tX,beq_iff_eq] at h;calc aw h λg l=>?_;calc aw g λj m=>?_;calc aw j λh1 Z=>⟨h1,m,λx p=>?_⟩;show V.scope.names.lookup x=_\/V.scope.names.lookup x=_;simpa using(jb.mp l _ p)
noncomputable def cr(scope:eb)(ρ:az):az:=λx=>if scope.names.lookup x=some .free then ρ x else none
theorem MY{scope:eb}{x:Str}:∀{names:List<|Str×jc},(names.map λ(n,k)=>if(k==nj&&V.scope.kind== .function&&V.kindOf n==some .cell) then(n,ud) else(n,k)).lookup x=(names.lookup x).map λk=>if(k==nj&&V.scope.kind== .function&&V.kindOf x==some .cell) then ud else k
 |[]=>rfl
 |(n,k)::r=>by
  have j:=MY (scope:=scope) (x:=x) (names:=r);rw[dK];by_cases l:x=n
  .subst l;by_cases h:(k==nj&&V.scope.kind== .function&&V.kindOf x==some .cell)=true
   .show Cv x ((if _ then _ else _)::_)=_;rw[if_pos h,sb,sb,beq_self_eq_true];show some _=some (if _ then _ else _);rw[if_pos h]
   .show Cv x ((if _ then _ else _)::_)=_;rw[if_neg h,sb,sb,beq_self_eq_true];show some _=some (if _ then _ else _);rw[if_neg h]
  .have g:(x==n)=false:=by simpa using l
   show Cv x ((if(k==nj&&V.scope.kind== .function&&V.kindOf n==some .cell)=true then _ else _)::_)=_;split
   .simp only[sb,g];exact j
   .simp only[sb,g];calc j
theorem mv{scope:eb}{x:Str}:(fP scope V).names.lookup x=(scope.names.lookup x).map λk=>if(k==nj&&V.scope.kind== .function&&V.kindOf x==some .cell) then ud else k:=MY (scope:=scope)
theorem RY(h:(fP scope V).names.lookup x=some .local):scope.names.lookup x=some .local:=by
 rw[mv] at h;calc ai (jX.mp h) λkd g=>aw g λh1 j=>?_;split at j
 .cases j
 .rw[h1,j]
theorem xW(h:(fP scope V).names.lookup x=some .cell\/(fP scope V).names.lookup x=some .free):scope.names.lookup x=some .cell\/scope.names.lookup x=some .free:=by
 rw[mv] at h;rcases h with h|h
 .refine ai (jX.mp h) λkd g=>aw g λh1 j=>?_;split at j
  .rename_i hc;simp only[tX,beq_iff_eq] at hc;rw[h1,hc.1.1];exact .inr rfl
  .rw[h1,j];exact .inl rfl
 .refine ai (jX.mp h) λkd g=>aw g λh1 j=>?_;split at j
  .cases j
  .rw[h1,j];calc .inr rfl
structure InComp(c:Cx)(V:Env)(scope:eb)(ρ:az)(B R:Look)(O:al)(s:aA)(cenv:Env)(R':Look)(s':aA):Prop where
 same:cenv.scope=fP scope V
 sup:∀a o,R a=some o->R' a=some o
 sat:Sat c B O R' s'
 loc:Loc c cenv (cr scope ρ) B R'
 old:∀x a,scope.names.lookup x≠some .free->cenv.cells.lookup x=some a->s.heap.get? a=none
 Bc:s.heap.get? cenv.locals=none
 fr:∀x a,scope.names.lookup x=some .free->cenv.cells.lookup x=some a->eD V a
 keep:∀a o,s.heap.get? a=some o->s'.heap.get? a=some o
theorem WR(S:Sat c B O R s)(L:Loc c V ρ B R)(ok:Nv scope V)(h:∀j U s',InComp c V scope ρ B R O s {j with scope:=fP scope V} U s'->Q j s'):ao (aO c.prog c.w) A (newFunctionEnv scope V.globals (qW V scope.names []) [] V.qual none .none<|some V) Q E s:=by
 have I:∀x∈scope.names,x.2= .free->∃a,V.cells.lookup x.1=some a:=λx g hk=>L.has x.1<|ok.free x.1 (by rw[<-hk];calc g);calc af<|wpAny_alloc ?_;calc af<|wpAny_layCells _ (λname kind cells=>by cases J:kind==ud<;>simp[J]) _ _ _ _ ?_;calc af<|ap<|ap<|h _ (λa=>if s.heap.get? a=none then(sq (s.heap.push {cls:= .type "dict",data:= .dict #[]}) scope.names).get? a else R a) _ ?_;have N:({s with heap:=s.heap.push {cls:= .type "dict",data:= .dict #[]}}:aA).heap.objs.size=s.heap.objs.size+1:=hV ..;have keep:∀a o,s.heap.get? a=some o->(sq (s.heap.push {cls:= .type "dict",data:= .dict #[]}) scope.names).get? a=some o:=λa o e=>pushCells_keeps _ _ _ _<|bW _ e;have r:s.heap.get? s.heap.objs.size=none:=gA _<|bS _;have P:(sq (s.heap.push {cls:= .type "dict",data:= .dict #[]}) scope.names).get? s.heap.objs.size=some {cls:= .type "dict",data:= .dict #[]}:=pushCells_keeps _ _ _ _<|dy _ rfl;have sup:∀a o,R a=some o->(if s.heap.get? a=none then(sq (s.heap.push {cls:= .type "dict",data:= .dict #[]}) scope.names).get? a else R a)=some o:=λa o e=>by rw[if_neg (by rw[S.fr a o e];simp)];exact e
 have l:∀x a,V.cells.lookup x=some a->(x,nj)∈scope.names->s.heap.get? a≠none:=λx a C g=>by calc aE (L.cell x a (ok.free x g) C) λo v D=>aw D λh1 _=>?_;rw[S.fr _ _ h1];simp
 have p:=Uj I;have H:=Tn scope.names (h0:=s.heap.push {cls:= .type "dict",data:= .dict #[]}) (λx a h=>by calc ai (tM.mp<|l x a (p.mem x a h).2 (p.mem x a h).1) λo X=>?_;rw[hV];calc tU<|fN X) λx y a g hy=>L.apart x y a (p.mem x a g).2 (p.mem y a hy).2;rw[hV] at H
 have Y:Sat c B O (λa=>if s.heap.get? a=none then(sq (s.heap.push {cls:= .type "dict",data:= .dict #[]}) scope.names).get? a else R a) {s with heap:=sq (s.heap.push {cls:= .type "dict",data:= .dict #[]}) scope.names}:=by
  refine⟨S.kb,λa o e=>keep a o<|S.fb a o e,λa o e=>?_,λa m e=>ai (S.fm a m e) λo q=>⟨o,keep a o q.1,q.2⟩,λa o e=>?_,S.bm,λa o e=>?_,S.gens,S.os⟩
  .split at e
   .exact e
   .exact keep a o<|S.fr a o e
  .show(if _ then _ else _)=_;rw[if_neg (by rw[S.fb a o e];simp)];exact S.br a o e
  .split at e
   .exact S.qf ‹_›
   .exact S.rm a o e
 rw[N];have mem:=λx a e=>H.mem x a<|mem_of_lookup e;refine⟨rfl,sup,Y,⟨ok.kind,L.gl,L.bl,jQ ({cls:= .type "dict",data:= .dict #[]}) (#[]) 0<|cx ?_ rfl (by intro e he;simp at he) λx g=>?_,λx a g C=>?_,λx g=>?_,λx y a g hy=>H.apart x y a (mem_of_lookup g)<|mem_of_lookup hy⟩,λx a g C=>?_,r,λx a g C=>?_,keep⟩
 .show(if _ then _ else _)=_;rw[if_pos r];exact P
 .unfold cr;rw[(RY g),if_neg (by decide)];show fR _ _ none<|nsFind #[] x;rw[show nsFind #[] x=none from rfl];trivial
 .have hk:=xW g;rcases mem x a C with h|⟨h1,z,T⟩
  .refine aw (p.mem x a h) λh1 z=>aE (L.cell x a (ok.free x h1) z) λo v D=>aN D λZ g2 g3=>bv o v<|aR (sup _ _ Z) g2 ?_;unfold cr;rw[if_pos (ym ok.nodup h1)];exact g3
  .rw[hV] at z;refine bv ({cls:= .type "cell",data:= .cell none}) none<|aR ?_ rfl ?_
   .show(if _ then _ else _)=_;rw[if_pos (gA _<|ja z)];exact T
   .unfold cr;rw[if_neg (by rw[ym ok.nodup h1];decide)];trivial
 .have hk:=xW g;exact BK.mp<|H.has x<|hk.imp mem_of_lookup λhk=>p.has x<|mem_of_lookup hk
 .rcases mem x a C with h|⟨h1,z,T⟩
  .exact absurd (ym ok.nodup (p.mem x a h).1) g
  .rw[hV] at z;exact gA _<|ja z
 .rcases mem x a C with h|⟨h1,z,T⟩
  .exact .inr ⟨x,ok.free x (p.mem x a h).1,(p.mem x a h).2⟩
  .rw[ym ok.nodup h1] at g;cases g
noncomputable def xm(g:List Expr)(V:Env):Sem Bool:=forIn g true λc r=>if r=true then do let ok <-su c V (eval c V);pure (GS ok) else pure<|GS r
noncomputable def vh(g:Expr)(h:Value)(V:Env):Sem Unit:=do let _ <-call (.builtin "list.append") [h,<-eval g V]
noncomputable def DC(e:Expr)(g:Expr)(h:Value)(V:Env):Sem Unit:=do
 let x <-eval g V;ix g.pos;let x <-sa g V x;let _ <-runOwn (.compStart e 1 (<-gL [x] (mc x)) h V) V
noncomputable def qT(l:Pos)(g:Expr)(j:List Expr)(body:Sem Unit)(e:Expr)(d:Nat)(it h:Value)(V:Env):Sem Fin:=do
 ix l
 match <-gM it with
 |none=>pure<|.done .next
 |some v=>
  wH g it v;sv g V v;let ok <-xm j V;if ok=true then(do body;pB<|.compLoop e d it h V) else pB<|.compLoop e d it h V
theorem UJ(j g h:Expr)(l:List Expr)(scope:eb)(p:Pos)(it m:Value)(V:Env):wR (.ListComp j [⟨g,h,l,0⟩] scope p) 0 it m V=qT h.pos g l (vh j m V) (.ListComp j [⟨g,h,l,0⟩] scope p) 0 it m V:=by rw[compTurn_list];unfold qT vh xm;rfl
theorem ZF(q g l j h:Expr)(p m:List Expr)(scope:eb)(r:Pos)(it z:Value)(V:Env):wR (.ListComp q [⟨g,l,p,0⟩,⟨j,h,m,0⟩] scope r) 0 it z V=qT l.pos g p (DC (.ListComp q [⟨g,l,p,0⟩,⟨j,h,m,0⟩] scope r) h z V) (.ListComp q [⟨g,l,p,0⟩,⟨j,h,m,0⟩] scope r) 0 it z V:=by
 have e:wR (.ListComp q [⟨g,l,p,0⟩,⟨j,h,m,0⟩] scope r) 0 it z V=(do
   ix l.pos
   match <-gM it with
   |none=>pure<|.done .next
   |some v=>
    wH g it v;sv g V v;let mut ok:=true
    for c in p do
     if ok then ok <-su c V (eval c V)
    if ok then
     let x <-eval h V;ix h.pos;let x <-sa h V x;let _ <-runOwn (.compStart (.ListComp q [⟨g,l,p,0⟩,⟨j,h,m,0⟩] scope r) 1 (<-gL [x] (mc x)) z V) V
    pB (.compLoop (.ListComp q [⟨g,l,p,0⟩,⟨j,h,m,0⟩] scope r) 0 it z V)):=by rfl
 rw[e];unfold qT DC xm;simp only[bind_assoc];rfl
theorem ZQ(p j m g h:Expr)(r l:List Expr)(scope:eb)(z:Pos)(it q:Value)(V:Env):wR (.ListComp p [⟨j,m,r,0⟩,⟨g,h,l,0⟩] scope z) 1 it q V=qT h.pos g l (vh p q V) (.ListComp p [⟨j,m,r,0⟩,⟨g,h,l,0⟩] scope z) 1 it q V:=by
 have e:wR (.ListComp p [⟨j,m,r,0⟩,⟨g,h,l,0⟩] scope z) 1 it q V=(do
   ix h.pos
   match <-gM it with
   |none=>pure<|.done .next
   |some v=>
    wH g it v;sv g V v;let mut ok:=true
    for c in l do
     if ok then ok <-su c V (eval c V)
    if ok then
     (do let _ <-call (.builtin "list.append") [q,<-eval p V])
    pB (.compLoop (.ListComp p [⟨j,m,r,0⟩,⟨g,h,l,0⟩] scope z) 1 it q V)):=by rfl
 rw[e];unfold qT vh xm;rfl
structure qD(c:Cx)(k:Nat)(V:Env)(ρ:az)(ifs:List Expr)(O:al)(Q:Bool->al->Prop):Prop where
 go:∀A B R s,cP k A->Sat c B O R s->Loc c V ρ B R->ao (aO c.prog c.w) A (xm ifs V) (uE c Q B R) EF s
theorem vR(q:Q true O):qD c k V ρ [] O Q:= .mk λA B R s r S L=>wpAny_tests_nil ⟨B,O,Look.le_refl B,S,q⟩
theorem xP(h:WT c k V ρ e O Q):qD c k V ρ [e] O Q:= .mk λA B R s r S L=>wpAny_tests_one<|h.1 A B R s r S L
noncomputable def fw(items:Array Value)(n:Nat):Obj:={cls:= .type "list",data:= .seq items n}
inductive BD (c:Cx) (V:Env) (D:Addr) (Own:Addr->Prop) (B R:Look) (P:List Dt->al->az->Prop) (s':aA):Prop
 |mk (B':Look) (ah:al) (R':Look) (ρ':az) (acc':List Dt) (items':Array Value) (n':Nat) (l:B.le B') (hr:∀a,a≠D->¬Own a->R' a=R a) (S:Sat c B' ah R' s') (L:Loc c V ρ' B' R')
  (hD:R' D=some (fw items' n')) (hl:aT c.w B' acc' items'.toList) (q:P acc' ah ρ')
structure CB(c:Cx)(k:Nat)(V:Env)(D:Addr)(Own:Addr->Prop)(ρ:az)(acc:List Dt)(m:Sem Unit)(O:al)(P:List Dt->al->az->Prop):Prop where
 go:∀A B R s items n,cP k A->Sat c B O R s->Loc c V ρ B R->R D=some (fw items n)->aT c.w B acc items.toList->ao (aO c.prog c.w) A m (λ_ s'=>BD c V D Own B R P s') EF s
inductive vC (P:List Dt->al->Prop) (acc:List Dt) (p:PV) (O:al):Prop
 |mk (d:Dt) (e:p= .d d) (q:P (acc++[d]) O)
inductive JO (c:Cx) (V:Env) (target:Expr) (I D:Addr) (Own:Addr->Prop) (B R:Look) (Inv:List PV->List Dt->al->az->Prop) (n:Nat) (s':aA):Prop
 |mk (B₁:Look) (μ₁:al) (R₁:Look) (ρ₁:az) (W₁:Look) (xs:List PV) (acc:List Dt) (items:Array Value) (m:Nat) (e:n=xs.length) (l:B.le B₁) (S:Sat c B₁ μ₁ (eC W₁ R₁) s') (hd:∀a,W₁ a≠none->R₁ a=none)
  (hr:∀a,a≠D->¬Own a->R₁ a=R a) (L:Loc c V ρ₁ B₁ R₁) (hW:ii W₁ s') (h:ji c target I xs W₁ B₁) (hD:R₁ D=some (fw items m)) (hl:aT c.w B₁ acc items.toList) (hJ:Inv xs acc μ₁ ρ₁)
theorem Loc.YO(L:Loc c V ρ B R)(j:¬eD V D):Loc c V ρ B (R.set D o):=by
 have up:∀a g,eD V a->R a=some g->(R.set D o) a=some g:=λa g h e=>by unfold Look.set;rw[if_neg (by rintro rfl;calc j h)];exact e
 calc L.on up
theorem JS(U:¬eD V D)(hs:small j.length)(h:WE c k V ρ H O<|vC (λa m=>P a m ρ) j):CB c k V D X ρ j (vh H (.ref D) V) O P:= .mk λA B R s items n r S L N T=>by
 unfold vh;calc af<|aS (h.1 A B R s r S L) (λv s₁ h₁=>?_) λZ Z x=>x;obtain⟨q,l,p,l₁,g,z,d,rfl,C⟩:=h₁;calc af<|append_at (g.fr _ _ N) (λh' I J=>?_) (by have:=T.length;rw[cu] at this;rw[this];calc hs.line);refine ap ⟨q,l,R.set D<|fw (items.push v)<|n+1,ρ,j++[d],items.push v,n+1,l₁,λa Y Z=>?_,(g.xJ N I J),(L.mono l₁).YO U,eE ..,?_,C⟩
 .unfold Look.set;rw[if_neg Y]
 .rw[kH];calc(aT.mono l₁ T).append ⟨v,[],rfl,z,rfl⟩
theorem Loc.part{B R W:Look}(L:Loc c V ρ B R)(g:∀a,W a≠none->¬eD V a):Loc c V ρ B (λa=>if W a=none then R a else none):=by
 have keep:∀a o,eD V a->R a=some o->(if W a=none then R a else none)=some o:=λa o j e=>by rw[if_pos (gX λh=>g a h j)];exact e
 calc L.on keep
theorem EO{e:Expr}{d:Nat}{D:Addr}{I:Addr}{Z:Addr->Prop}{ip:Pos}{l:Expr}{f0:List Expr}{body:Sem Unit}{Inv:List PV->List Dt->al->az->Prop}(hq:((Pg e d (.ref I) (.ref D) V).quiet=true))(f1:(Pg e d (.ref I) (.ref D) V).isFrame=false)(hu:∀A:cj,A.under (.compLoop e d (.ref I) (.ref D) V)=A)(b8:wR e d (.ref I) (.ref D) V=qT ip l f0 body e d (.ref I) (.ref D) V)(hD:¬eD V D)(hO:∀a,Z a->eD V a)(hT:∀a,Tg V l a->Z a)(step:∀x xs b7 O ρ,Inv (x::xs) b7 O ρ->cW c k V ρ l x O λe6 a1=>qD c k V a1 f0 e6<|jf (λa2=>CB c k V D Z a1 b7 body a2<|Inv xs) λa2=>Inv xs b7 a2 a1){A:cj}{B R W:Look}{s:aA}{N:List PV}{P:List Dt}{z:Array Value}{d6:Nat}(r:cP k A)(hI:Inv N P O ρ)(S:Sat c B O (eC W R) s)(f2:∀a,W a≠none->R a=none)(L:Loc c V ρ B R)(hW:ii W s)(It:ji c l I N W B)(hR:R D=some (fw z d6))(hl:aT c.w B P z.toList):lz (aO c.prog c.w) A (.compLoop e d (.ref I) (.ref D) V) (λrr s'=>match rr with| .ok _=>BD c V D Z B R (Inv []) s'| .error _=>False) s:=by
 calc codeAny_loop hq (JO c V l I D Z B R Inv) ?_ N.length ⟨B,O,R,ρ,W,N,P,z,d6,rfl,Look.le_refl B,S,f2,λ_ _ _=>rfl,L,hW,It,hR,hl,hI⟩;rintro n s' ⟨d7,b9,b1,c0,g5,xs,b7,items,m,rfl,l₁,a0,a3,U,c1,c2,c3,X,a5,c4⟩;show ao _ _ (if(Pg e d (.ref I) (.ref D) V).isFrame=true then _ else(wR e d (.ref I) (.ref D) V).onRaise λx=>do noteFrame x V;theTreesLotGoes x) _ _ s';calc cw (decide_eq_false<|by rw[f1];calc lr)<|wpAny_noted<|kC ?_;rw[b8];unfold qT;calc af<|hY<|af ?_;have rA:(A.under<|.compLoop e d (.ref I) (.ref D) V).handled=none:=by rw[hu];exact r.handled
 cases xs with
 |nil=>
  calc aS (c3 _ s' rA c2 a0.fb) (λrr f9 hh=>?_) λ_ _ x=>x;have c5:=hh.1;have K:=hh.2;clear hh;subst c5;calc ap ⟨d7,b9,b1,c0,b7,items,m,l₁,U,(a0.step (W':=λ_=>none) (T:=λ_=>none) a3 K (λ_ h=>absurd rfl h) (λ_ _ e=>by calc bp e) (λ_ _ e=>by calc bp e) λ_ h=>absurd rfl h),c1,X,a5,c4⟩
 |cons x xs=>
  calc aS (c3 _ s' rA c2 a0.fb) (λrr f9 hh=>ai hh λv c5=>?_) λ_ _ x=>x;have g0:=c5.1;have hg:=c5.2;clear c5 hh;subst g0;calc af<|aS hg (λ_ f3 hh=>?_) λ_ _ x=>x;obtain⟨j,T,K,d8,e7,g1,hf,rx,e8⟩:=hh;have c6:=merge_le a0.fb hf;have Y:∀a,j a≠none->b1 a=none:=λa h=>a3 a<|d8 a h;have r':cP k (A.under<|.compLoop e d (.ref I) (.ref D) V):=by rw[hu];exact r
  calc af<|aS ((step x xs b7 b9 c0 c4).1 _ _ (eC j b1) f3 v r' (a0.step a3 K d8 e7 g1 hf) ((c1.mono c6).eC Y) rx) (λ_ f4 hh=>?_) λ_ _ x=>x;obtain⟨f5,g2,b2,g3,d9,c7,f6,c8,e0⟩:=hh;calc af<|aS (e0.1 _ f5 b2 f4 r' f6 c8) (λb f7 hh=>?_) λ_ _ x=>x;obtain⟨c9,g4,b3,e4,d0⟩:=hh;have e9:d7.le c9:=Look.le_trans (Look.le_trans c6 d9) b3;have e5:∀a,j a≠none->¬eD V a:=λa h hF=>c1.inR hF<|Y a h;have d1:∀a,j a≠none->a≠D:=λa h hh=>by clear f1 b8 r' hg hD U hR step rA hq hu e0 d0;subst hh;rw[Y _ h] at X;exact bp X
  have d2:b2 D=some (fw items m):=by rw[c7 D (λh=>hD h.pI),ik (gX λh=>d1 D h rfl)];exact X
  have fin:∀{C H p J q g b4 b5},c9.le C->(∀a,a≠D->¬Z a->p a=b2 a)->Sat c C H p b5->Loc c V J C p->p D=some (fw g b4)->aT c.w C q g.toList->Inv xs q H J->
    ∃m',m'<(x::xs).length/\JO c V l I D Z B R Inv m' b5:=by
   intro C H p J q g b4 b5 b6 a6 d3 d4 a7 a8 a9
   have d5:∀a,a≠D->¬Z a->p a=eC j b1 a:=λa h1 h2=>(a6 a h1 h2).trans<|c7 a λh=>h2<|hT a h
   have f8:p=eC j (λa=>if j a=none then p a else none):=by
    funext a;by_cases hw:j a=none
    .rw[ik hw,if_pos hw]
    .rw[jN hw,d5 a (d1 a hw) λh=>e5 a hw<|hO a h,jN hw]
   have b0:=d3
   rw[f8] at b0
   refine⟨xs.length,bS _,C,H,λa=>if j a=none then p a else none,J,j,xs,q,g,b4,rfl,Look.le_trans l₁<|Look.le_trans e9 b6,b0,λa h=>if_neg h,λa h1 h2=>?_,d4.part e5,λa o h=>b0.fr a o<|by rw[jN (by rw[h];simp)];calc h,e8.mono<|Look.le_trans d9<|Look.le_trans b3 b6,?_,a8,a9⟩
   .by_cases hw:j a=none
    .rw[if_pos hw,d5 a h1 h2,ik hw];exact U a h1 h2
    .rw[if_neg hw,<-U a h1 h2,Y a hw]
   .rw[if_pos (gX λh=>d1 D h rfl)];exact a7
  cases b with
  |false=>
   calc cw rfl<|ap ⟨rfl,fin (Look.le_refl _) (λ_ _ _=>rfl) e4 (c8.mono b3) d2 (aT.mono e9 a5)<|oM d0⟩
  |true=>
   calc fM rfl<|af<|aS ((oH d0).1 _ c9 b2 f7 items m r' e4 (c8.mono b3) d2<|aT.mono e9 a5) (λ_ b5 hh=>?_) λ_ _ x=>x;obtain⟨C,H,p,J,q,g,b4,b6,a6,d3,d4,a7,a8,a9⟩:=hh;calc ap ⟨rfl,fin b6 a6 d3 d4 a7 a8 a9⟩
theorem sz(e:x=some o)(g:x=none):False:=by rw[e] at g;calc cU g
theorem Loc.sup{B R g:Look}(L:Loc c V ρ B R)(h:∀a o,R a=some o->g a=some o):Loc c V ρ B g:=L.on λa o Z=>h a o
noncomputable def qS(scope:eb)(cenv:Env)(a:Addr):Prop:=a=cenv.locals\/∃x,scope.names.lookup x=some .cell/\cenv.cells.lookup x=some a
theorem qS.pI{scope:eb}{cenv:Env}(hc:cenv.scope=fP scope V){a:Addr}(h:qS scope cenv a):eD cenv a:=by
 rcases h with h|⟨x,h1,g⟩
 .exact .inl h
 .refine .inr ⟨x,.inl ?_,g⟩;show cenv.scope.names.lookup x=_;rw[hc,mv,h1];rfl
theorem Tg.own(hc:cenv.scope=fP scope V)(j:(iW t).all (λx=>scope.names.lookup x !=some .free)=true)(h:Tg cenv t a):qS scope cenv a:=by
 rcases h with h|⟨x,h1,l,m⟩
 .exact .inl h
 .refine .inr ⟨x,?_,m⟩;have g:cenv.scope.names.lookup x=some .cell\/cenv.scope.names.lookup x=some .free:=l;rw[hc] at g;rcases xW g with h|h
  .exact h
  .have:=jb.mp j x h1;rw[h] at this;simp at this
structure kG(c:Cx)(k:Nat)(V:Env)(ρ:az)(scope:eb)(e tgt:Expr)(xs:List PV)(O:al)(P:List Dt->al->Prop):Prop where
 go:∀cenv A B R W s D I,cenv.scope=fP scope V->¬eD cenv D->cP k A->Sat c B O (eC W R) s->(∀a,W a≠none->R a=none)->Loc c cenv (cr scope ρ) B R->ii W s->ji c tgt I xs W B->R D=some (fw #[] 0)-> lz (aO c.prog c.w) A (.compLoop e 0 (.ref I) (.ref D) cenv) (λrr s'=>match rr with| .ok _=>BD c cenv D (qS scope cenv) B R (λacc O _=>P acc O) s'| .error _=>False) s
@[reducible] noncomputable def Df (c:Cx) (k:Nat) (V:Env) (ρ:az) (scope:eb) (e tgt:Expr) (P:List Dt->al->Prop):List PV->al->Prop:=λxs O=>kG c k V ρ scope e tgt xs O P
@[reducible] noncomputable def MA (Q:PV->al->Prop):List Dt->al->Prop:=λg O=>Q (.d<|.lst g) O
theorem Sat.extra(S:Sat c B O R s)(hf:o.isFreed=false):Sat c B O (R.set s.heap.objs.size o) {s with heap:=s.heap.push o}:=by calc aN S.fresh λh1 g h=>?_;have:=(S.push o).rest h1<|dy _ hf;rwa [rM g] at this
theorem LK{a8 j l:Expr}{Y:List Expr}{rest:List PJ}{scope:eb}{Z:Pos}{use:Option<|Value->Sem Unit}{Qf:Value->aA->Prop}{P:List PV->al->Prop}{P':List Dt->al->Prop}{A:cj}{B R:Look}{s:aA}(c7:yt scope V.scope=true)(hs:∀x,sa l V x=pure x)(r:cP k A)(S:Sat c B O R s)(L:Loc c V ρ B R)(h:ky c k V ρ l j O<|Df c k V ρ scope (.ListComp a8 (⟨j,l,Y,0⟩::rest) scope Z) j P')(fin:∀B' ah N s' a0 C D items n,B.le B'->Sat c B' ah N s'->(∀a o,R a=some o->N a=some o)->N D=some (fw items n)->R D=none->(∃m,s'.heap.Ns C m)->N C≠none->R C=none->C≠D->aT c.w B' a0 items.toList->P' a0 ah->compPost (aO c.prog c.w) A EF use Qf (.ref D) C (.ok .next) s'):ao (aO c.prog c.w) A (comprehension (.ListComp a8 (⟨j,l,Y,0⟩::rest) scope Z) scope V (firstIterPos (⟨j,l,Y,0⟩::rest) Z) (newList []) false (eval l V) use) Qf EF s:=by
 have ok:=Qt c7;have c8:∀x∈scope.names,x.2= .free->∃a,V.cells.lookup x.1=some a:=λx hx hk=>L.has x.1<|ok.free x.1 (by rw[<-hk];calc hx);calc wpAny_comprehension_free (use:=use) rfl hs (Wf c8) ok.kind (λy hy hk=>ym ok.nodup<|by rw[<-hk];calc hy)<|aS (h.1 A B R s r S L) (λx s₁ h₁=>aS h₁ (λit s₂ b8=>?_) λ_ _ x=>x) λ_ _ x=>x;obtain⟨a2,gx,W,I,xs,rfl,a3,T,hW,J,It,pB,a9⟩:=b8;calc nX ?_ (by show([]:List Value).toArray.size<=ly;rw[dO];simp);have SR:=T.eC hW J;calc aN SR.fresh λf1 f2 f3=>?_;have d5:(fw #[] 0)={cls:= .type "list",dict:=none,data:= .seq ([]:List Value).toArray}:=rfl
 have b0:W s₂.heap.objs.size=none:=by
  cases q:W s₂.heap.objs.size with
  |none=>rfl
  |some o=>have:=hW _ _ q;rw[gA _ (bS _)] at this;exact bp this
 have a1:R s₂.heap.objs.size=none:=by rw[<-f3,ik b0]
 calc WR (SR.extra (o:=fw #[] 0) rfl) (((L.mono a3).eC λa ha=>(J a ha).2.2).sup<|fW f3) ok λg N p C=>?_;have c9:p.heap.get? s₂.heap.objs.size=some (fw #[] 0):=C.keep _ _<|dy _ rfl
 have b9:∀a,W a≠none->¬eD {g with scope:=fP scope V} a:=λa ha hF=>by
  calc ai (tM.mp ha) λo ho=>?_;have z:=bW (fw #[] 0)<|hW _ _ ho;rcases hF with rfl|⟨x,h1,h2⟩
  .exact sz z C.Bc
  .rcases xW (V:=V) (scope:=scope) h1 with hk|hk
   .exact sz z<|C.old x a (by rw[hk];decide) h2
   .exact absurd (J a ha).2.2<|L.inR<|C.fr x a hk h2
 have a5:¬eD {g with scope:=fP scope V} s₂.heap.objs.size:=λhF=>by
  have z:(s₂.heap.push<|fw #[] 0).get? s₂.heap.objs.size=some (fw #[] 0):=dy _ rfl;rcases hF with h|⟨x,h1,h2⟩
  .exact sz z<|h▸C.Bc
  .rcases xW (V:=V) (scope:=scope) h1 with hk|hk
   .exact(sz z<|C.old x _ (by rw[hk];decide) h2)
   .exact absurd a1<|L.inR<|C.fr x _ hk h2
 have c0:N=Internal.eC W (λa=>if W a=none then N a else none):=by
  funext a;by_cases hw:W a=none
  .rw[ik hw,if_pos hw]
  .refine ai (tM.mp hw) λo ho=>?_
   rw[jN hw,ho];calc C.sup a o ?_;have b1:a≠s₂.heap.objs.size:=by rintro rfl;rw[b0] at ho;exact bp ho
   unfold Look.set;rw[if_neg b1,jN hw];exact ho
 have U:=C.sat;rw[c0] at U;have c1:Loc c {g with scope:=fP scope V} (cr scope ρ) a2 (λa=>if W a=none then N a else none):=C.loc.part b9;have H:ii W p:=λa o e=>C.keep a o<|bW _<|hW a o e;have b2:(if W s₂.heap.objs.size=none then N s₂.heap.objs.size else none)=some (fw #[] 0):=by rw[if_pos b0];exact C.sup _ _<|eE ..
 have c2:∀a o,R a=some o->(if W a=none then N a else none)=some o:=λa o e=>by
  have hw:W a=none:=gX λh=>by rw[(J a h).2.2] at e;exact bp e
  rw[if_pos hw];calc C.sup a o ?_;have b1:a≠s₂.heap.objs.size:=by rintro rfl;rw[a1] at e;exact bp e
  unfold Look.set;rw[if_neg b1,ik hw];exact e
 have a6:lz (aO c.prog c.w) A (.compLoop (.ListComp a8 (⟨j,l,Y,0⟩::rest) scope Z) 0 (.ref I) (.ref s₂.heap.objs.size) {g with scope:=fP scope V})
   (compPost (aO c.prog c.w) A EF use Qf (.ref s₂.heap.objs.size) g.locals) p:=by
  refine lW (a9.1 {g with scope:=fP scope V} A a2 (λa=>if W a=none then N a else none) W p _ I rfl a5 r U (λa h=>if_neg h) c1 H It b2) λrr s' hh=>?_
  cases rr with
  |error e=>calc hh.elim
  |ok f=>
   obtain⟨c3,b3,X,d0,a0,items,n,c4,b4,a7,c5,b5,b6,c6⟩:=hh
   have up:∀a o,R a=some o->X a=some o:=λa o e=>by
    rw[b4 a (by rintro rfl;rw[a1] at e;calc bp e) λhO=>?_] at|-
    .exact c2 a o e
    .have z:=bW (fw #[] 0)<|T.fr a o e;rcases hO with rfl|⟨x,h1,h2⟩
     .exact sz z C.Bc
     .exact sz z<|C.old x a (by rw[h1];decide) h2
   refine gz c5.ns λoL es ep b7=>bV b7 λhL d1 d2 _=>?_
   have d3:R g.locals=none:=by
    cases q:R g.locals with
    |none=>rfl
    |some o=>exact(sz (bW (fw #[] 0)<|T.fr _ _ q) C.Bc).elim
   have:=fin c3 b3 X s' a0 g.locals s₂.heap.objs.size items n (Look.le_trans a3 c4) a7 up b5 a1 ⟨nsFind es,oL,es,ep,a7.fr _ _ hL,d1,d2,λ_=>rfl⟩ (by rw[show X g.locals=_ from hL];simp) d3 (λh=>a5<|.inl h.symm) b6 c6;cases use<;>exact this
 calc codeAny_compStart_list a6<|kC<|aS (pB A p H) (λv s' hh=>?_) λ_ _ x=>x;have b7:=hh.1;have d4:=hh.2;clear hh;subst b7;clear U H C c9;subst d4;calc a6
theorem KN{B' R l:Look}{ah:al}{s':aA}{D:Addr}{items:Array Value}{n:Nat}{h:List Dt}(S:Sat c B' ah l s')(m:l D=some (fw items n))(z:R D=none)(r:aT c.w B' h items.toList):Sat c (B'.set D<|fw items n) ah (λa=>if a=D then none else l a) s'/\B'.le (B'.set D<|fw items n)/\be c.w (B'.set D<|fw items n) (.lst h) (.ref D):=by
 have p:B' D=none:=by
  cases q:B' D with
  |none=>rfl
  |some o=>have:=S.br _ _ q;rw[m] at this;exact cU this
 have j:Sat c B' ah (λa=>if a=D then none else l a) s':=S.sC λa o e=>by
  split at e
  .exact bp e
  .exact e
 have g:=j.rG p (by simp)<|S.fr _ _ m;rw[rM (S.rm _ _ m)] at g;calc⟨g,fW p,_,_,_,_,rfl,eE ..,rfl,rfl,aT.mono (fW p) r⟩
theorem gN{p g j:Expr}{z:List Expr}{rest:List PJ}{scope:eb}{H:Pos}{Q:PV->al->Prop}(a0:yt scope V.scope=true)(hs:∀x,sa j V x=pure x)(h:ky c k V ρ j g O<|Df c k V ρ scope (.ListComp p (⟨g,j,z,0⟩::rest) scope H) g<|MA Q):WE c k V ρ (.ListComp p (⟨g,j,z,0⟩::rest) scope H) O Q:= .mk λA B R s r S L=>by
 rw[eval_ListComp];calc LK (P:=λ_ _=>True) a0 hs r S L h λB' ah R' s' a1 C D items n l S' up hD I J hC a2 N hl q=>ai J λm hm=>⟨m,hm,λh' T=>aN (KN (R:=R) S' hD I hl) λU l₂ rv=>ai (tM.mp hC) λoC X=>?_⟩;have Y:Sat c (B'.set D<|fw items n) ah R s':=U.sC λa o e=>by rw[if_neg (by rintro rfl;rw[I] at e;calc bp e)];exact up a o e
 have a3:(B'.set D<|fw items n) C=none:=by
  unfold Look.set;rw[if_neg N];cases qq:B' C with
  |none=>rfl
  |some o=>have:=S'.br _ _ qq;rw[X] at this;exact cU this
 have Z:Sat c (B'.set D<|fw items n) ah R {s' with heap:=h'}:=Y.keep rfl rfl λa o e hh=>T.extBut a o (λhx=>by
  clear T hC hm J N;subst hx;rcases hh with hh|hh|⟨m',hh⟩
  .rw[a3] at hh;exact bp hh
  .rw[a2] at hh;exact bp hh
  .rw[S'.rm _ _ X] at hh;calc bp hh) e
 calc⟨_,ah,.d<|.lst a1,Look.le_trans l l₂,Z,rv,q⟩
noncomputable def eS(S:eb):Env:={scope:=S,locals:=0,globals:=0,cells:=[]}
theorem xM(h:V.scope=S):HR v t n V=HR v t n (eS S):=by subst h;rfl
theorem wY(h:V.scope=S):Cr g v V=Cr g v (eS S):=by subst h;rfl
theorem xH{x:Str}{px:Pos}{a1 g j:Expr}{J:List Expr}{rest:List PJ}{scope:eb}{N a2:Pos}{Q:Fl->al->az->Prop}(b7:HR (.ListComp a1 (⟨g,j,J,0⟩::rest) scope N) (some<|.Name x px) a2.line V=pure true)(b8:yt scope V.scope=true)(hs:∀x,sa j V x=pure x)(h:ky c k V ρ j g O<|Df c k V ρ scope (.ListComp a1 (⟨g,j,J,0⟩::rest) scope N) g<|MA<|JX c k V ρ (.Name x px)<|Kf Q):WS c k V ρ (.Assign [.Name x px] (.ListComp a1 (⟨g,j,J,0⟩::rest) scope N) a2) O Q:= .mk λA B R s r S L=>by
 rw[exec_Assign_Name_used _ _ _ _ b7];calc af<|hY<|af ?_;show ao _ A (do let _ <-comprehension (.ListComp a1 (⟨g,j,J,0⟩::rest) scope N) scope V (firstIterPos (⟨g,j,J,0⟩::rest) N) (newList []) false (eval j V) (some<|sv (.Name x px) V)) _ _ s;calc af<|aS (LK (Qf:=λ_ s'=>nG c V Q B R .next s') (P:=λ_ _=>True) b8 hs r S L h λB' ah R' s' b9 C D items n l S' up hD a6 a7 hC a8 a9 hl q=>ai a7 λm hm=>aN (KN (R:=R) S' hD a6 hl) λb0 l₂ rv=>ai (tM.mp hC) λoC a5=>?_) (λ_ s' hq=>ap<|ap hq) λ_ _ x=>x;have T:∀a o,R a=some o->(if a=D then none else R' a)=some o:=λa o e=>by rw[if_neg (by rintro rfl;rw[a6] at e;calc bp e)];exact up a o e
 calc aS (q.1 A _ _ s' (.ref D) r b0 ((L.sup T).mono<|Look.le_trans l l₂) rv) (λ_ U hh=>?_) λ_ _ x=>x;obtain⟨X,Y,p,Z,b1,a0,H,b2,b3⟩:=hh;have a3:¬eD V C:=λh=>absurd a8<|L.inR h;have z:p C=some oC:=by rw[a0 C λh=>a3 h.pI,if_neg a9];exact a5
 have I:U.heap.Ns C m:=by
  obtain⟨o,es,ep,h1,h2⟩:=hm;have:U.heap.get? C=s'.heap.get? C:=by rw[H.fr _ _ z,S'.fr _ _ a5]
  exact⟨o,es,ep,by rw[this];calc h1,h2⟩
 refine⟨m,I,λh' b4=>?_⟩
 have b5:Sat c X Y (λa=>if R a=none then none else p a) U:=H.sC λa o e=>by
  split at e
  .exact bp e
  .exact e
 have b6:Loc c V Z X (λa=>if R a=none then none else p a):=by
  have keep:∀a o,eD V a->p a=some o->(if R a=none then none else p a)=some o:=λa o hF e=>by rw[if_neg (L.inR hF)];exact e
  exact b2.on keep
 refine⟨X,Y,λa=>if R a=none then none else p a,Z,.next,Look.le_trans l<|Look.le_trans l₂ b1,λa ha=>?_,b5.keep rfl rfl λa o e hh=>b4.extBut a o (λhx=>by
  clear a3 b4 a5 hC hm a7 I a9;subst hx;rcases hh with hh|hh|⟨m',hh⟩
  .have:=H.br _ _ hh;rw[z] at this;exact cU this
  .rw[if_pos a8] at hh;exact bp hh
  .rw[H.rm _ _ z] at hh;calc bp hh) e,b6,rfl,b3⟩
 by_cases hn:R a=none
 .rw[if_pos hn,hn]
 .refine ai (tM.mp hn) λo ho=>?_;rw[if_neg hn,a0 a λh=>ha h.pI,T a o ho,ho]
theorem cW.mono(h:cW c k V ρ t p O Q)(i:∀O ρ,Q O ρ->j O ρ):cW c k V ρ t p O j:= .mk λA B R s v r S L m=>aS (h.1 A B R s v r S L m) (λZ Z p=>p.rec λB' ah z g l k S L q=>⟨B',ah,z,g,l,k,S,L,i _ _ q⟩) λZ Z x=>x
theorem qD.mono(h:qD c k V ρ g O Q)(i:∀b O,Q b O->j b O):qD c k V ρ g O j:= .mk λA B R s r S L=>aS (h.1 A B R s r S L) (λZ Z p=>p.rec λB' ah l S q=>⟨B',ah,l,S,i _ _ q⟩) λZ Z x=>x
theorem ky.mono(h:ky c k V ρ e t O P)(i:∀xs O,P xs O->g xs O):ky c k V ρ e t O g:= .mk λA B R s r S L=>aS (h.1 A B R s r S L) (λZ Z h=>aS h (λZ Z p=>p.rec λB' ah W I xs e l j m z C D q=>⟨B',ah,W,I,xs,e,l,j,m,z,C,D,i _ _ q⟩) λZ Z x=>x) λZ Z x=>x
theorem CB.mono(h:CB c k V D z ρ C m O P)(i:∀a O ρ,P a O ρ->J a O ρ):CB c k V D z ρ C m O J:= .mk λA B R s items n r S L N H=>aS (h.1 A B R s items n r S L N H) (λZ Z p=>p.rec λB' ah T I j g U l k S L X H q=>⟨B',ah,T,I,j,g,U,l,k,S,L,X,H,i _ _ _ q⟩) λZ Z x=>x
theorem kG.mono(h:kG c k V ρ scope e t xs O P)(i:∀a O,P a O->r a O):kG c k V ρ scope e t xs O r:= .mk λcenv A B R W s D I h1 C H J L N S T U=>lW (h.1 cenv A B R W s D I h1 C H J L N S T U) λX s' z=>by
  cases X with
  |error e=>calc z
  |ok f=>obtain⟨B',ah,Y,m,j,g,Z,l,hr,S',L',hD,p,q⟩:=z;calc⟨B',ah,Y,m,j,g,Z,l,hr,S',L',hD,p,i _ _ q⟩
noncomputable def fS(scope:eb)(ρ g:az):Prop:=∀y,scope.names.lookup y=some .free->g y=ρ y
theorem fS.aZ(T:fS scope ρ g)(h:(scope.names.lookup x !=some .free)=true)(p:PV):fS scope ρ (aZ g x p):=λy hy=>by unfold Internal.aZ;rw[if_neg (by rintro rfl;rw[hy] at h;simp at h)];calc T y hy
theorem fS.cr(scope:eb)(ρ:az):fS scope ρ (cr scope ρ):=λy hy=>by unfold Internal.cr;rw[if_pos hy]
@[reducible] noncomputable def Aw (c:Cx) (k:Nat) (scope:eb) (ρ:az) (cenv:Env) (l:List Expr) (m:Expr) (P:List Dt->al->Prop) (j:List Dt):al->az->Prop:=λh g=>fS scope ρ g/\qD c k cenv g l h (jf (PE c k cenv g m<|vC P j)<|P j)
inductive La (c:Cx) (k:Nat) (cenv:Env) (ρ₂:az) (target' elt:Expr) (P:List Dt->al->Prop) (acc:List Dt) (ys:List PV) (O:al):Prop
 |mk (Inv2:List PV->List Dt->al->Prop) (h0:Inv2 ys acc O) (step:∀ρ₃ y ys acc O,(∀z,z∉iW target'->ρ₃ z=ρ₂ z)->Inv2 (y::ys) acc O->small acc.length/\cW c k cenv ρ₃ target' y O λμ₄ ρ₄=>(∀z,z∉iW target'->ρ₄ z=ρ₂ z)/\
    WE c k cenv ρ₄ elt μ₄ (vC (Inv2 ys) acc)) (fin:∀acc O,Inv2 [] acc O->P acc O)
theorem Jf(ht:(iW g).all (λx=>scope.names.lookup x !=some .free)=true)(Inv:List PV->List Dt->al->Prop)(h0:Inv xs [] O)(step:∀cenv j x xs m O,cenv.scope=fP scope V->fS scope ρ j->Inv (x::xs) m O->small m.length/\cW c k cenv j g x O (Aw c k scope ρ cenv H N (Inv xs) m)):kG c k V ρ scope (.ListComp N [⟨g,P,H,0⟩] scope Z) g xs O (Inv []):= .mk λcenv A B R W s D I hc Y r S T L hW It hR=>by
 refine lW (EO (Inv:=λxs m O j=>Inv xs m O/\fS scope ρ j) rfl rfl (λ_=>rfl) (UJ N g P H scope Z (.ref I) (.ref D) cenv) Y (λa h=>qS.pI hc h) (λa h=>Tg.own hc ht h) (λx xs m O j hI=>?_) r ⟨h0,fS.cr _ _⟩ S T L hW It hR<|by show aT _ _ [] [];rfl) λrr s' z=>?_
 .have U:=(step cenv j x xs m O hc hI.2 hI.1);have h:=U.2
  calc h.mono λa0 a1 J=>J.2.mono λb a2 h=>?_;cases b with
  |false=>calc⟨oM h,J.1⟩
  |true=>
   exact JS Y U.1<|(oH h).mono λp a3 q=>q.rec λd e q=>⟨d,e,q,J.1⟩
 .cases rr with
  |error e=>calc z
  |ok f=>obtain⟨B',ah,R',j,X,C,n',l,hr,S',L',Y,a5,q⟩:=z;calc⟨B',ah,R',j,X,C,n',l,hr,S',L',Y,a5,q.1⟩
theorem Un(h0:lz (aO prog w) A (.compLoop (.ListComp q [⟨j,m,r,0⟩,⟨g,l,p,0⟩] scope z) 1 it C V) R s)(h:ao (aO prog w) A (mc it) (λD s'=>lz (aO prog w) A (.compLoop (.ListComp q [⟨j,m,r,0⟩,⟨g,l,p,0⟩] scope z) 1 D C V) R s') EF s):lz (aO prog w) A (.compStart (.ListComp q [⟨j,m,r,0⟩,⟨g,l,p,0⟩] scope z) 1 it C V) R s:=by
 calc Pj ?_;show ao _ _ ((compStart (.ListComp q [⟨j,m,r,0⟩,⟨g,l,p,0⟩] scope z) 1 it C V).onRaise λx=>do noteFrame x V;ix theWindowsPlace) _ _ s;calc wpAny_notedAt<|kC ?_;unfold compStart;show ao _ _ (ask>>=_) _ _ s;calc af<|Ch<|wpAny_ite ?_;split
 .exact af<|ap<|ap<|PX rfl h0
 .exact af<|fq<|af<|hY<|af<|aS h (λD s' h'=>ap<|PX rfl h') λZ Z x=>x
theorem QI(ht:(iW j).all (λx=>scope.names.lookup x !=some .free)=true)(a9:(iW g).all (λx=>scope.names.lookup x !=some .free)=true)(hs:∀(e:Env) x,sa N e x=pure x)(Inv:List PV->List Dt->al->Prop)(h0:Inv xs [] O)(step:∀cenv C x xs P O,cenv.scope=fP scope V->fS scope ρ C->Inv (x::xs) P O->cW c k cenv C j x O λY H=>fS scope ρ H/\ky c k cenv H N g Y (La c k cenv H g a1 (Inv xs) P)):kG c k V ρ scope (.ListComp a1 [⟨j,Z,[],0⟩,⟨g,N,[],0⟩] scope a6) j xs O (Inv []):= .mk λcenv A B R W s D I hc hD r S b0 L hW It hR=>by
 refine lW (EO (Inv:=λxs P O C=>Inv xs P O/\fS scope ρ C) rfl rfl (λ_=>rfl) (ZF a1 j Z g N [] [] scope a6 (.ref I) (.ref D) cenv) hD (λa h=>qS.pI hc h) (λa h=>Tg.own hc ht h) (λx xs P O C hI=>?_) r ⟨h0,fS.cr _ _⟩ S b0 L hW It hR<|by show aT _ _ [] [];rfl) λrr s' z=>?_
 .refine(step cenv C x xs P O hc hI.2 hI.1).mono λY H J=>vR ?_;show CB _ _ _ _ _ _ _ _ _ _;calc .mk λA B R s items n r S L hR hl=>?_;unfold DC;calc af<|aS (J.2.1 A B R s r S L) (λv s₁ h₁=>af<|hY<|af ?_) λ_ _ x=>x;rw[hs];calc ap<|af<|co<|aS h₁ (λit s₂ b1=>?_) λ_ _ x=>x;obtain⟨c0,b5,c1,a2,ys,rfl,l₁,a3,T,X,a7,pB,b2,b6,hi,b3⟩:=b1;refine af<|wpAny_runOwn ?_
  have a5:lz (aO c.prog c.w) (A.mark none) (.compLoop (.ListComp a1 [⟨j,Z,[],0⟩,⟨g,N,[],0⟩] scope a6) 1 (.ref a2) (.ref D) cenv)
    (λrr s'=>match rr with| .ok f=>ao (aO c.prog c.w) A (pure ()) (λ_ s'=>BD c cenv D (qS scope cenv) B R (λa m r=>Inv xs a m/\fS scope ρ r) s') EF s'| .error e=>cameBackBy (aO c.prog c.w) A cenv EF e s') s₂:=by
   refine lW (EO (Inv:=λys P O C=>b2 ys P O/\∀z,z∉iW g->C z=H z) rfl rfl (λ_=>rfl) (ZQ a1 j Z g N [] [] scope a6 (.ref a2) (.ref D) cenv) hD (λa h=>qS.pI hc h) (λa h=>Tg.own hc a9 h) (λy ys P O C hI=>?_) (A:=A.mark none) (r) ⟨b6,λ_ _=>rfl⟩ (a3.eC T X) (λa h=>(X a h).2.2) (L.mono l₁) T a7 hR<|aT.mono l₁ hl) λrr s' z=>?_
   .have b4:=(hi C y ys P O hI.2 hI.1);have h:=b4.2;exact h.mono λY H J=>vR<|JS hD b4.1<|J.2.mono λp b7 q=>q.rec λd e q=>⟨d,e,q,J.1⟩
   .cases rr with
    |error e=>calc z.elim
    |ok f=>
     obtain⟨B',ah,R',C,a0,U,n',l,hr,S',L',hD,a8,q⟩:=z;calc ap ⟨B',ah,R',C,a0,U,n',Look.le_trans l₁ l,hr,S',L',hD,a8,b3 _ _ q.1,λy hy=>?_⟩;rw[q.2 y λhm=>?_] at|-
     .exact J.1 y hy
     .have:=jb.mp a9 y hm;rw[hy] at this;simp at this
  calc Un a5<|aS (pB _ s₂ T) (λv s' hh=>?_) λ_ _ x=>x;have b8:=hh.1;have b9:=hh.2;clear hh;subst b8;clear a3 T;subst b9;exact a5
 .cases rr with
  |error e=>calc z
  |ok f=>obtain⟨B',ah,R',C,a0,U,n',l,hr,S',L',hD,a8,q⟩:=z;calc⟨B',ah,R',C,a0,U,n',l,hr,S',L',hD,a8,q.1⟩
inductive Zq (c:Cx) (k:Nat) (V:Env) (ρ:az) (target:Expr) (body:List Stmt) (Q:Fl->al->az->Prop) (xs:List PV) (O:al):Prop
 |mk (I:List PV->al->az->Prop) (h0:I xs O ρ) (step:∀x xs O ρ,I (x::xs) O ρ->cW c k V ρ target x O (mu c k V body<|Lp I Q xs)) (fin:∀O ρ,I [] O ρ->Q .next O ρ)
theorem QQ(hs:∀x,sa j V x=pure x)(h:ky c k V ρ j g O<|Zq c k V ρ g body Q):WS c k V ρ (.For g j body [] m) O Q:=gD hs<|h.mono λxs O q=>q.rec λI h0 l he=>⟨I,h0,λx xs O ρ z p r=>(l x xs O ρ r).mono λO ρ h=>WB.mono h p,he⟩
noncomputable def xt(c:Cx)(p:PV)(g:List PV):Prop:=∀{O A B R s v},A.handled=none->Sat c B O R s->RV c.w B p v->ao (aO c.prog c.w) A (unpackItems v g.length none) (λvs s'=>Sat c B O R s'/\bC c.w B g vs) EF s
theorem Sat.Ea(S:Sat c B O R s)(he:yW s.heap.objs.size s.heap h'):Sat c B O R {s with heap:=h'}:=S.grow rfl rfl λa o e=>he a o (hZ<|fN e) e
theorem As:xt c (.d<|.tup l) (l.map .d):=λ{O A B R s v} hh S j=>by calc aE (be.isTup S.up j) λa items g=>aN g λh p m=>?_;clear g;clear j;subst h;rw[au,<-m.length,cu];calc unpackItems_tuple hh p λh' he=>⟨S.Ea he,bC.AD m⟩
theorem EK:xt c (.tp l) l:=λ{O A B R s v} hh S j=>by calc aE (RV.isTup S.up j) λa items g=>aN g λh p m=>?_;clear g;clear j;subst h;rw[<-m.length,cu];calc unpackItems_tuple hh p λh' he=>⟨S.Ea he,m⟩
theorem Kd(q:t≠it):∀(n i:Nat) (s:aA) (Q:List Value->aA->Prop),s.heap.IsListIter it t i->s.heap.IsList t items->i+n<=items.size->(∀h',h'.IsListIter it t (i+n)->lU it s.heap h'->Q ((items.toList.drop i).take n) {s with heap:=h'})->ao (aO prog w) A (draw (.ref it) n) Q E s
 |0,i,s,Q,l,_,_,D=>by show ao _ _ (pure []) Q E s;calc ap<|by simpa using D s.heap l (Oj ..)
 |n+1,i,s,Q,l,I,z,D=>by
  have H:i<items.size:=(ax 494226637809) z;show ao _ _ (gM (.ref it)>>=_) Q E s;calc af<|N3 l I (x:=items[i]) (ct _) λh₁ h g=>?_;have m:h₁.IsList t items:=by obtain⟨o,J,r⟩:=I;exact⟨o,g.extBut t o q J,r⟩
  calc af<|co<|Kd q n (i+1) _ _ h m ((ax 160049550529) z) λC j p=>ap ?_;have hd:items.toList.drop i=items[i]::items.toList.drop (i+1):=by simp[H5,H]
  have:=D C (by rw[show i+(n+1)=i+1+n from(aq 105100481)];calc j)<|g.trans p;rw[hd,List.take_succ_cons] at this;calc this
theorem Zx:xt c (.d<|.lst l) (l.map .d):=λ{O A B R s v} hh S I=>by
 calc aE (be.mT S.up I) λa items p=>aN p λH D J=>?_;clear p;clear I;subst H;rw[au,<-J.length,cu];have q:a≠s.heap.objs.size:=by obtain⟨o,z,_⟩:=D;exact hZ<|fN z
 unfold unpackItems;calc af ?_;unfold notIterableAtAll;calc af<|pb D.typeIs slot_list_iter.lookup<|ap ?_;calc af<|co<|Hg D ?_;have up:∀{o:Obj},(s.heap.push o).IsList a items:=λ{o}=>by obtain⟨N,z,r⟩:=D;exact⟨N,bW _ z,r⟩
 calc af<|co<|Kd q items.size 0 _ _ ⟨_,dy _ rfl,rfl,rfl⟩ up ((aB 136222)) λh₁ h g=>?_;have C:List.take items.size (List.drop 0 items.toList)=items.toList:=by rw[Hr];exact nV<|bS _
 rw[C];rw[if_neg (by simp)];have j:h₁.IsList a items:=by obtain⟨o,z,r⟩:=up;exact⟨o,g.extBut a o q z,r⟩
 calc af<|co<|P1 hh h j (by simp) λL m=>?_;calc ap ⟨S.Ea λb o hb e=>m b o hb<|g.extBut b o hb<|bW _ e,bC.AD J⟩
noncomputable def ET:List Str->List PV->az->az
 |n::ns,p::g,ρ=>ET ns g<|aZ ρ n p
 |_,_,ρ=>ρ
@[reducible] noncomputable def ZU (names:List Str) (g:List PV) (ρ:az):az:=ET names.reverse g.reverse ρ
noncomputable def Zp(V:Env)(g:List Expr)(a:Addr):Prop:=a=V.locals\/∃x∈FL g,(V.kindOf x=some .cell\/V.kindOf x=some .free)/\V.cells.lookup x=some a
inductive Vp (c:Cx) (V:Env) (ts:List Expr) (Q:al->az->Prop) (B R:Look) (s:aA):Prop
 |mk (B':Look) (ah:al) (R':Look) (ρ':az) (l:B.le B') (k:∀a,¬Zp V ts a->R' a=R a) (S:Sat c B' ah R' s) (L:Loc c V ρ' B' R') (q:Q ah ρ')
structure Ac(c:Cx)(k:Nat)(V:Env)(ρ:az)(ts:List Expr)(ps:List PV)(O:al)(Q:al->az->Prop):Prop where
 go:∀A B R s vs,cP k A->Sat c B O R s->Loc c V ρ B R->bC c.w B ps vs->ao (aO c.prog c.w) A (Ct ((sj ts V).map (·.2)) vs) (λ_ s'=>Vp c V ts Q B R s') EF s
@[reducible] noncomputable def TV (c:Cx) (k:Nat) (V:Env) (g:List Expr) (h:List PV) (Q:al->az->Prop):al->az->Prop:=λO ρ=>Ac c k V ρ g h O Q
inductive Rv (c:Cx) (names:List Str) (ρ:az) (Q:Fl->al->az->Prop) (p:PV) (O:al):Prop
 |mk (ps:List PV) (hu:xt c p ps) (hn:ps.length=names.length) (q:Q .next O (ZU names ps ρ))
theorem FV(q:Q O ρ):Ac c k V ρ [] [] O Q:= .mk λA B R s vs r S L g=>ap ⟨B,O,R,ρ,Look.le_refl B,λZ Z=>rfl,S,L,q⟩
theorem vy(ht:sj (t::Z) V=(false,sv t V)::sj Z V)(h:cW c k V ρ t p O<|TV c k V Z ps Q):Ac c k V ρ (t::Z) (p::ps) O Q:= .mk λA B R s vs r S L q=>by
 calc q.rec λv g e rv a0=>?_;subst e;rw[ht];show ao _ _ (gL g (sv t V v)>>=λ_=>Ct ((sj Z V).map (·.2)) g) _ _ s;calc af<|co<|aS (h.1 A B R s v r S L rv) (λ_ s₁ h₁=>?_) λ_ _ x=>x;obtain⟨C,a1,D,a2,l₁,j,H,I,J⟩:=h₁;calc aS (J.1 A C D s₁ g r H I<|bC.mono l₁ a0) (λ_ s₂ N=>?_) λ_ _ x=>x;obtain⟨P,l,T,m,l₂,z,U,X,Y⟩:=N;calc⟨P,l,T,m,Look.le_trans l₁ l₂,λa ha=>?_,U,X,Y⟩;rw[z a λh=>ha ?_,j a λh=>ha ?_] at|-
 .rcases h with h|⟨x,h1,h2⟩
  .exact .inl h
  .exact .inr ⟨x,dh _<|by assumption,h2⟩
 .rcases h with h|⟨x,h1,h2⟩
  .exact .inl h
  .exact .inr ⟨x,cn _<|by assumption,h2⟩
theorem DL(T:xt c p P)(U:(sj g V).length=P.length)(j:(sj g V).findIdx? (·.1)=none)(h:Ac c k V ρ g P O Q):cW c k V ρ (.Tuple g kk N) p O Q:= .mk λA B R s v r S L X=>by
 show ao _ _ (ix N>>=λ_=>unpack v<|sj g V) _ _ s;calc af<|hY ?_;unfold unpack;rw[U,j];calc af<|co<|aS (T r.handled S X) (λvs s₁ h₁=>aS (h.1 A B R s₁ vs r h₁.1 L h₁.2) (λ_ s₂ z=>?_) λ_ _ x=>x) λ_ _ x=>x;obtain⟨C,l,D,m,l₂,q,H,I,J⟩:=z;calc⟨C,l,D,m,l₂,λa Y=>q a λh=>Y ?_,H,I,J⟩;rcases h with h|⟨x,h1,Z⟩
 .exact .inl h
 .exact .inr ⟨x,h1,Z⟩
theorem Uz:∀{ns:List Str} {I:List PV} {ρ:az} {A:cj} {B R:Look} {s:aA} {vs:List Value},(ns.all λn=>V.scope.names.lookup n==some .local)=true->Sat c B O R s->Loc c V ρ B R->bC c.w B I vs->ao (aO c.prog c.w) A (Ct (ns.map λn=>zj V n) vs) (λ_ s'=>∃N,(∀a,¬eD V a->N a=R a)/\Sat c B O N s'/\Loc c V (ET ns I ρ) B N) EF s:=by
 intro P;induction P with
 |nil=>
  intro I ρ A B R s vs _ S L _;have e:Ct (([]:List Str).map λn=>zj V n) vs=pure ():=by cases vs<;>rfl
  rw[e];calc ap ⟨R,aR (λ_ _=>rfl) S L⟩
 |cons n ns ih=>
  intro T;cases T with
  |nil=>
   intro ρ A B R s vs _ S L h;rw[show vs=[] from h];calc ap ⟨R,aR (λ_ _=>rfl) S L⟩
  |cons p I=>
   intro ρ A B R s vs hk S L U;obtain⟨v,m,e,rv,X⟩:=U;subst e;simp only[V3,tX,beq_iff_eq] at hk;have q:V.kindOf n=some .local:=hk.1;calc gz L.ns λo es e g=>bV g λY hd hs hr=>?_;show ao _ _ (gL m (zj V n v)>>=λ_=>Ct (ns.map λn=>zj V n) m) _ _ s;calc af<|co<|Pr<|P0 q ⟨o,es,e,S.fr _ _ Y,hd,hs,λ_=>rfl⟩ (λh' Z a0=>?_) (by rw[L.fn];rfl);obtain⟨o',a1,e',a2,a3,r,a5⟩:=Z
   have L':Loc c V (aZ ρ n p) B (R.set V.locals o'):=by
    refine⟨L.fn,L.gl,L.bl,jQ o' a1 e'<|cx (eE ..) a3 r λy hy=>?_,λy a hy J=>?_,L.has,L.apart⟩
    .rw[a5];unfold aZ;by_cases j:y=n
     .rw[if_pos j];show fR _ _ _<|if y=n then _ else _;rw[if_pos j];exact rv
     .rw[if_neg j];show fR _ _ _<|if y=n then _ else _;rw[if_neg j];exact hr y hy
    .refine aE (L.cell y a hy J) λoc vc g=>aN g λh1 h2 h3=>?_
     have a6:a≠V.locals:=by rintro rfl;rw[Y] at h1;cases h1;rw[hd] at h2;cases h2
     calc bv oc vc<|aR (by unfold Look.set;rw[if_neg a6];calc h1) h2 ?_;unfold aZ;rw[if_neg (by rintro rfl;rw[q] at hy;rcases hy with hy|hy<;>cases hy)];exact h3
   calc aS (ih hk.2 ((S.xJ Y a0 a2).toks<|s.toks+1) L' X) (λ_ s₂ z=>ai z λC g=>aN g λl D H=>⟨C,aR (λa J=>by rw[l a J];unfold Look.set;rw[if_neg λhh=>J (.inl hh)]) D H⟩) λ_ _ x=>x
theorem bC.reverse:∀{g:List PV} {vs:List Value},bC w B g vs->bC w B g.reverse vs.reverse:=by
 intro j;induction j with
 |nil=>
  intro vs h;rw[show vs=[] from h];rfl
 |cons p g m=>
  intro vs l;obtain⟨v,q,e,h,hs⟩:=l;rw[e,N9,N9];calc(m hs).append ⟨v,[],rfl,h,rfl⟩
theorem yz(hs:PD [.Tuple j Y l] g U.line V=pure false)(hw:Cr [.Tuple j Y l] g V=pure (some names))(hk:(names.reverse.all λn=>V.scope.names.lookup n==some .local)=true)(h:WE c k V ρ g O<|Rv c names ρ Q):WS c k V ρ (.Assign [.Tuple j Y l] g U) O Q:= .mk λA B R s r S L=>by calc Assign_Tuple_swapped (aS (h.1 A B R s r S L) (λv s₁ h₁=>?_) λ_ _ x=>x) hs hw;obtain⟨D,z,p,l₁,H,I,ps,hu,hn,q⟩:=h₁;rw[<-hn];calc aS (hu r.handled H I) (λvs s₂ m=>aS (Uz hk m.1 (L.mono l₁) m.2.reverse) (λ_ Z J=>ai J λN X=>aN X λC P T=>⟨D,z,N,_,.next,l₁,C,P,T,rfl,q⟩) λ_ _ x=>x) λ_ _ x=>x
inductive TY (I:Nat->al->az->Prop) (n:Nat) (O:al) (ρ:az):Prop
 |mk (m:Nat) (h:m<n) (q:I m O ρ)
noncomputable def VW(I:Nat->al->az->Prop)(Q:Fl->al->az->Prop)(n:Nat):Fl->al->az->Prop
 | .next,O,ρ=>TY I n O ρ
 | .ret v,O,ρ=>Q (.ret v) O ρ
inductive Yu (c:Cx) (V:Env) (B R:Look) (I:Nat->al->az->Prop) (n:Nat) (s':aA):Prop
 |mk (B₁:Look) (μ₁:al) (R₁:Look) (ρ₁:az) (l:B.le B₁) (S:Sat c B₁ μ₁ R₁ s') (hr:∀a,¬eD V a->R₁ a=R a) (L:Loc c V ρ₁ B₁ R₁) (h:I n μ₁ ρ₁)
theorem Eg(I:Nat->al->az->Prop)(J:Nat)(h0:I J O ρ)(step:∀n O ρ,I n O ρ->WT c k V ρ N O (jf (PB c k V ρ body<|VW I Q n) λO=>Q .next O ρ)):WS c k V ρ (.While N body [] b0) O Q:= .mk λA B R s r S L=>by
 refine wpAny_While ?_
 have main:lz (aO c.prog c.w) A (.whileLoop N body [] V) (λr s'=>match r with| .ok f=>nG c V Q B R f s'| .error e=>False) s:=by
  calc codeAny_whileLoop (Yu c V B R I) ?_ J ⟨B,O,R,ρ,Look.le_refl B,S,λ_ _=>rfl,L,h0⟩;rintro n s' ⟨a6,a2,g,h,l₁,a7,j,l,hI⟩;calc kC<|aS ((step n a2 h hI).1 A a6 g s' r a7 l) (λb s₂ hh=>?_) λ_ _ x=>x;obtain⟨P,a3,l₂,T,U⟩:=hh;cases b with
  |false=>
   calc Ph ⟨P,a3,g,h,.next,Look.le_trans l₁ l₂,j,T,l.mono l₂,rfl,(oM U)⟩
  |true=>
   calc kC<|aS ((oH U).1 A P g s₂ r T<|l.mono l₂) (λf a9 hh=>?_) λ_ _ x=>x;obtain⟨X,C,D,H,fl,a8,a5,Y,Z,rf,a0⟩:=hh;have a1:=Look.le_trans l₁<|Look.le_trans l₂ a8;have hr:∀a,¬eD V a->D a=R a:=λa ha=>(a5 a ha).trans<|j a ha;cases fl with
   |next=>
    rw[show f= .next from rf];obtain⟨m,hm,q⟩:=a0;calc⟨m,hm,X,C,D,H,a1,Y,hr,Z,q⟩
   |ret p=>
    obtain⟨v',rfl,rv⟩:=rf;exact⟨X,C,D,H,.ret p,a1,hr,Y,Z,⟨v',rfl,rv⟩,a0⟩
 exact lW main λr s' z=>by
  cases r with
  |ok f=>calc z
  |error e=>calc z.elim
theorem lG(q:∀a,O a=none->Q (.ref a) (upd O a<|.aM [])):WE c k V ρ (.Dict [] [] g) O Q:= .mk λA B R s r S L=>by calc wpAny_Dict_empty<|⟨_,_,.ref _,Look.le_refl B,S.xE (m:= .aM []) rfl ⟨#[],0,rfl,rfl,rfl,rfl,hX,rfl,cO _⟩,rfl,q _ S.fresh.2.1⟩
theorem Qo(r:cP k A)(S:Sat c B O R s)(q:O a=some (.aM l))(g:Key x)(hs:small l.length)(z:be c.w B x v)(H:RV c.w B p u)(h:∀s',Sat c B (upd O a<|.aM<|dput l x p) R s'->Q () s'):ao (aO c.prog c.w) A (dictSet a v u) Q EF s:=by calc aE (S.aM q) λes e m=>aN m λC D I=>?_;have P:=S.dput q g.key g.dZ z H es e C D I;calc NA (by have:=r.u;calc(aq 0x73429f173410f1) this) C rfl (D.mono S.up) g.key g.dZ (be.mono S.up z) (by rw[td D];calc hs) (λJ=>h _<|(P.1 J).toks _) λj hj=>h _<|(P.2 j hj).toks _
noncomputable def qk:List (Dt×PV)->List (Dt×PV)->List (Dt×PV)
 |l,[]=>l
 |l,(x,p)::r=>qk (dput l x p) r
inductive Qz (c:Cx) (Q:List (Dt×PV)->al->Prop) (B R:Look) (vs:List<|Value×Value) (s':aA):Prop
 |mk (B':Look) (ah:al) (l:List<|Dt×PV) (le:B.le B') (S:Sat c B' ah R s') (h1:aT c.w B' (l.map (·.1)) (vs.map (·.1))) (h2:bC c.w B' (l.map (·.2)) (vs.map (·.2))) (q:Q l ah)
structure zY(c:Cx)(k:Nat)(V:Env)(ρ:az)(keys:List<|Option Expr)(vals:List Expr)(pos:Pos)(O:al)(Q:List (Dt×PV)->al->Prop):Prop where
 go:∀A B R s,cP k A->Sat c B O R s->Loc c V ρ B R->ao (aO c.prog c.w) A (evalPairs<|pairTrees keys vals V pos) (Qz c Q B R) EF s
@[reducible] noncomputable def QP (c:Cx) (k:Nat) (V:Env) (ρ:az) (keys:List<|Option Expr) (g:List Expr) (h:Pos) (x:Dt) (Q:List (Dt×PV)->al->Prop):PV->al->Prop:=λq O=>zY c k V ρ keys g h O λl O=>Q ((x,q)::l) O
inductive XG (c:Cx) (k:Nat) (V:Env) (ρ:az) (ve:Expr) (keys:List<|Option Expr) (vals:List Expr) (pos:Pos) (Q:List (Dt×PV)->al->Prop) (p:PV) (O:al):Prop
 |mk (x:Dt) (e:p= .d x) (h:WE c k V ρ ve O<|QP c k V ρ keys vals pos x Q)
inductive Xm (Q:PV->al->Prop) (l:List<|Dt×PV) (O:al):Prop
 |mk (hl:l.length<=100) (hk:∀e∈l,Key e.1) (q:∀a,O a=none->Q (.ref a) (upd O a<|.aM<|qk [] l))
inductive YW (Q:PV->al->Prop) (p:PV) (O:al):Prop
 |mk (i:Int) (e:p= .d (.int i)) (hi:i.natAbs.log2<1920) (q:Q (.d<|.str<|ak<|toString i) O)
theorem KV(q:Q [] O):zY c k V ρ [] [] g O Q:= .mk λA B R s r S L=>ap ⟨B,O,[],Look.le_refl B,S,rfl,rfl,q⟩
theorem Fa(h:WE c k V ρ ke O<|XG c k V ρ ve keys j m Q):zY c k V ρ (some ke::keys) (ve::j) m O Q:= .mk λA B R s r S L=>by show ao _ _ (eval ke V>>=λkv=>gL [kv] (eval ve V>>=λx=>ix m>>=λ_=>pure x)>>=λvv=>gL [kv,vv] (evalPairs<|pairTrees keys j V m)>>=λrest=>pure ((kv,vv)::rest)) _ _ s;calc af<|aS (h.1 A B R s r S L) (λv s₁ h₁=>?_) λ_ _ x=>x;obtain⟨C,a1,p,l₁,D,H,x,rfl,I⟩:=h₁;calc af<|co<|af<|aS (I.1 A C R s₁ r D<|L.mono l₁) (λu s₂ J=>af<|hY<|ap ?_) λ_ _ x=>x;obtain⟨N,a2,q,l₂,P,T,U⟩:=J;calc af<|co<|aS (U.1 A N R s₂ r P<|L.mono<|Look.le_trans l₁ l₂) (λvs a3 X=>ap ?_) λ_ _ x=>x;obtain⟨Y,z,l,g,Z,rk,rv,a0⟩:=X;calc⟨Y,z,(x,q)::l,Look.le_trans l₁<|Look.le_trans l₂ g,Z,⟨v,_,rfl,H.mono<|Look.le_trans l₂ g,rk⟩,⟨u,_,rfl,T.mono g,rv⟩,a0⟩
theorem Yn(l:List<|Dt×PV)(x:Dt)(p:PV):(dput l x p).length<=l.length+1:=by
 unfold dput;split
 .rw[au];exact Q8
 .rw[bA];simp
theorem Yg(r:cP k A)(l:List<|Dt×PV):∀{g:List<|Dt×PV} {O:al} {B:Look} {s:aA} {vs:List<|Value×Value},Sat c B O R s->O a=some (.aM g)->(∀e∈l,Key e.1)->small (g.length+l.length)->aT c.w B (l.map (·.1)) (vs.map (·.1))->bC c.w B (l.map (·.2)) (vs.map (·.2))->(∀s',Sat c B (upd O a<|.aM<|qk g l) R s'->Q () s')->ao (aO c.prog c.w) A (storeAll a vs) Q EF s:=by
 induction l with
 |nil=>
  intro g O B s vs S q hk hs j m h;rw[Ot.mp j];calc ap<|h s ?_;rw[show upd O a (.aM<|qk g [])=O from Ge q];calc S
 |cons y l N=>
  intro g O B s vs S q hk hs j m h;cases vs with
  |nil=>calc mr j λZ Z e Z Z=>nE e
  |cons z vs=>
   calc mr j λP C e D j=>?_;obtain⟨T,us',H,I,m⟩:=m;have D:be c.w B y.1 z.1:=(show P=z.1 from(dN e).1.symm)▸D;have j:aT c.w B (l.map (·.1)) (vs.map (·.1)):=(show C=vs.map (·.1) from(dN e).2.symm)▸j;have I:RV c.w B y.2 z.2:=(show T=z.2 from(dN H).1.symm)▸I;have m:bC c.w B (l.map (·.2)) (vs.map (·.2)):=(show us'=vs.map (·.2) from(dN H).2.symm)▸m;clear e H;have hs:g.length+(l.length+1)<=1000000:=hs;unfold storeAll;rw[qs];calc af<|af<|Qo (x:=y.1) (p:=y.2) r S q (hk _ dC) (aL (kI _ _) hs) D I λs' U=>ap<|N U (if_pos rfl) (λe he=>hk e<|dw _ he) ((ax 0x205f435205f4c12b5) hs<|Yn g y.1 y.2) j m λJ L=>h J<|yh▸L
theorem Na(C:keys.all (·.isSome)=true)(N:keys.length=z.length)(h0:keys≠[])(p:keys.length<=15)(h:zY c k V ρ keys z H O<|Xm Q):WE c k V ρ (.Dict keys z H) O Q:= .mk λA B R s r S L=>by
 calc wpAny_Dict_any C N h0 p<|aN S.fresh λZ f2 I=>?_;have P:Loc c V ρ B (R.set s.heap.objs.size {cls:= .type "dict",data:= .dict #[]}):=L.sup<|fW I;calc aS (h.1 A B _ _ r (S.extra (o:={cls:= .type "dict",data:= .dict #[]}) rfl) P) (λvs s₁ h₁=>?_) λ_ _ x=>x;obtain⟨j,g,l,l₁,m,T,U,p,hk,q⟩:=h₁;have X:=m.fr _ _<|eE R s.heap.objs.size {cls:= .type "dict",data:= .dict #[]}
 have Y:j s.heap.objs.size=none:=by
  cases e:j s.heap.objs.size with
  |none=>rfl
  |some o=>have:=m.br _ _ e;rw[eE] at this;exact cU this
 have D:Sat c j (upd g s.heap.objs.size<|.aM []) R s₁:=(m.sC (R:=R) λa o e=>fW I a o e).own Y I X ⟨#[],0,rfl,rfl,rfl,rfl,hX,rfl,cO _⟩;calc Yg r l D (by unfold upd;rw[if_pos rfl]) hk (by unfold small;simp;calc Q9 p) T U λs' J=>?_;have e:upd (upd g s.heap.objs.size<|.aM []) s.heap.objs.size (.aM<|qk [] l)=upd g s.heap.objs.size (.aM<|qk [] l):=by funext b;unfold upd;split<;>rfl
 rw[e] at J;calc⟨j,_,.ref _,l₁,J,rfl,q _<|m.rm _ _<|eE ..⟩
theorem zV(h:WE c k V ρ g O<|YW Q):WE c k V ρ (.FormattedValue g (-1) none C) O Q:= .mk λA B R s r S L=>by calc FormattedValue_plain<|aS (h.1 A B R s r S L) (λv s₁ h₁=>?_) λZ Z x=>x;obtain⟨l,j,p,l₁,m,z,i,rfl,hi,q⟩:=h₁;obtain⟨t,rfl⟩:=z;calc PyProof.Rows.formatField_int_small hi ⟨l,j,.d<|.str _,l₁,m.toks _,⟨_,rfl⟩,q⟩
structure WJ(c:Cx)(k:Nat)(V:Env)(ρ:az)(out:Str)(es:List Expr)(O:al)(Q:PV->al->Prop):Prop where
 go:∀A B R s,cP k A->Sat c B O R s->Loc c V ρ B R->ao (aO c.prog c.w) A (joinParts out<|evalEach es V) (gc c Q B R) EF s
inductive KJ (c:Cx) (k:Nat) (V:Env) (ρ:az) (out:Str) (es:List Expr) (Q:PV->al->Prop) (p:PV) (O:al):Prop
 |mk (y:Str) (e:p= .d (.str y)) (hs:small (out++y).length) (h:WJ c k V ρ (out++y) es O Q)
theorem Dv(hs:small out.length)(q:Q (.d<|.str out) O):WJ c k V ρ out [] O Q:= .mk λA B R s r S L=>joinParts_nil ⟨B,O,.d<|.str out,Look.le_refl B,S.toks _,⟨_,rfl⟩,q⟩ hs.line
theorem rn(h:WE c k V ρ e O<|KJ c k V ρ out es Q):WJ c k V ρ out (e::es) O Q:= .mk λA B R s r S L=>by show ao _ _ (joinParts out (eval e V::evalEach es V)) _ _ s;calc joinParts_cons<|aS (h.1 A B R s r S L) (λv s₁ h₁=>?_) λZ Z x=>x;obtain⟨g,z,p,l₁,j,l,y,rfl,hs,q⟩:=h₁;obtain⟨t,rfl⟩:=l;calc⟨small.line hs,aS (q.1 A g R s₁ r j<|L.mono l₁) (λv s₂ m=>m.up l₁) λZ Z x=>x⟩
theorem Dh(h:WJ c k V ρ sk (e::g::es) O Q):WE c k V ρ (.JoinedStr (e::g::es) j) O Q:= .mk λA B R s r S L=>JoinedStr_many<|h.1 A B R s r S L
noncomputable def PV.De:PV->Bool
 | .d .none=>true
 |_=>false
theorem RV.isNone(hp:p.plain=true)(h:RV w B p v):(v== .none)=p.De:=by
 cases p with
 |ex v=>calc ek hp
 |ref a=>rw[show v= .ref a from h];rfl
 |tp l=>obtain⟨a,o,it,e,rfl,_⟩:=h;rfl
 |d x=>
  cases x with
  |none=>rw[show v= .none from h];rfl
  |bool b=>rw[show v= .bool b from h];rfl
  |int n=>obtain⟨t,rfl⟩:=h;rfl
  |str n=>obtain⟨t,rfl⟩:=h;rfl
  |tup l=>obtain⟨a,o,it,e,rfl,_⟩:=h;rfl
  |lst l=>obtain⟨a,o,it,e,rfl,_⟩:=h;rfl
  |aM ks vs=>obtain⟨a,o,it,e,rfl,_⟩:=h;rfl
theorem KU(hp:p.plain=true)(q:Q (.d<|.bool p.De) O):gF c k (jY .Is) p (.d .none) O Q:= .mk λA B R s l g r S h j=>by rw[show g= .none from j];calc is_none_gen ⟨B,O,.d<|.bool _,Look.le_refl B,S,(by rw[RV.isNone hp h];rfl),q⟩
theorem JE(hp:p.plain=true)(q:Q (.d<|.bool (!p.De)) O):gF c k (jY .IsNot) p (.d .none) O Q:= .mk λA B R s l g r S h j=>by rw[show g= .none from j];calc isnot_none_gen ⟨B,O,.d<|.bool _,Look.le_refl B,S,(by rw[RV.isNone hp h];rfl),q⟩
theorem DR{is:List Int}{items:Array Value}(h:aT w B (is.map .int) items.toList):∀(i:Nat) (v:Value),items[i]? =some v->∃t,v= .int (is[i]?.getD 0) t:=λi v l=>by
 have g:=h.length;have hi:i<items.size:=(rS.mp l).1;have j:i<is.length:=by rw[cu,au] at g;exact yb g hi
 have m:is[i]? =some is[i]:=cR j;obtain⟨u,p,t,rfl⟩:=h.get (i:=i) (d:= .int is[i]) (by rw[dm,m];rfl);rw[fj,l] at p;calc⟨t,by rw[m];calc gn p⟩
theorem LF(S:Sat c B O R s)(j:s.heap.IsList a items)(h:∀s₂:aA,Sat c B O R s₂->(s₂.heap.IsListIter s.heap.objs.size a 0/\s₂.heap.IsList a items)->(∀b∈[s.heap.objs.size,a],b<s₂.heap.objs.size)->a≠s.heap.objs.size->(∀b o,B b=some o\/R b=some o\/(∃m,O b=some m)->b∉[s.heap.objs.size])->Q (.ref s.heap.objs.size) s₂):ao (aO c.prog c.w) A (mc<|.ref a) Q EF s:=by
 have g:a<s.heap.objs.size:=by obtain⟨_,e,_⟩:=j;exact fN e
 refine Hg j<|h _ (S.push _) ⟨⟨_,dy _ rfl,rfl,rfl⟩,j.push _⟩ (λb hb=>?_) (hZ g) λb o hb hm=>?_
 .show b<(s.heap.push _).objs.size;rw[hV];rcases dD.mp hb with rfl|hb
  .exact pa _
  .rcases dD.mp hb with rfl|hb
   .exact tU g
   .exact cX hb
 .have l:=gA s.heap<|bS s.heap.objs.size;rw[ci.mp hm] at hb;rcases hb with hb|hb|⟨m,hb⟩
  .rw[S.qK l] at hb;exact bp hb
  .rw[S.pG l] at hb;exact bp hb
  .rw[S.qf l] at hb;calc bp hb
theorem RE{is:List Int}{Q:PV->al->Prop}(q:∀m:Int,Q (.d<|.int m) O):aW c k (.builtin "sum") [.d (.lst<|is.map .int)] O Q:= .mk λA B R s vs r S D=>by calc ai D.un λv g=>?_;have j:=g.1;have H:=g.2;clear g;subst j;calc aE (be.mT S.up H) λa items g=>aN g λj I J=>?_;clear g;clear D H;subst j;calc call_sum_walkG<|LF S I λs₂ l st z C p=>⟨_,_,_,_,_,_,_,rfl,PH (A:=A.in1) r.handled _ a C items,st,z,DR J,λh' N L hk=>⟨B,O,.d<|.int _,Look.le_refl B,l.keep rfl rfl λb o e hb=>hk b o (p b o<|hb.elim .inl λh=>h.elim (λh=> .inr<|.inl h) λh=> .inr<|.inr h) e,⟨L,rfl⟩,q _⟩⟩
theorem QG{is:List Int}{Q:PV->al->Prop}(N:is≠[])(q:∀m:Int,Q (.d<|.int m) O):aW c k (.builtin "max") [.d (.lst<|is.map .int)] O Q:= .mk λA B R s vs r S I=>by calc ai I.un λv g=>?_;have l:=g.1;have J:=g.2;clear g;subst l;calc aE (be.mT S.up J) λa items g=>aN g λl P C=>?_;clear g;clear I J;subst l;have j:=C.length;rw[cu,au] at j;calc call_max_walk<|LF S P λs₂ p st D H z=>⟨_,_,_,_,_,_,_,rfl,PH (A:=A.in1) r.handled _ a H items,st,D,by rw[j];calc List.length_pos_iff.mpr N,T9 _<|DR C,λv h' T L hk=>ai (DR C _ _ L) λt g=>?_⟩;clear L;subst g;calc⟨B,O,.d<|.int _,Look.le_refl B,p.keep rfl rfl λb o e hb=>hk b o (z b o<|hb.elim .inl λh=>h.elim (λh=> .inr<|.inl h) λh=> .inr<|.inr h) e,⟨t,rfl⟩,q _⟩
theorem Ud(q:Q (.d<|.int<|if y>x then y else x) O):aW c k (.builtin "max") [.d (.int x),.d (.int y)] O Q:= .mk λA B R s vs r S J=>by
 obtain⟨v,u,rfl,⟨t,rfl⟩,p,rfl⟩:=J.pJ;have H:(s.heap.push {cls:= .type "tuple",data:= .seq #[.int x t,.int y p]}).IsTuple s.heap.objs.size #[.int x t,.int y p]:=⟨_,dy _ rfl,rfl,_,rfl⟩;have L:=gA s.heap<|bS s.heap.objs.size;have g:(s.heap.push {cls:= .type "tuple",data:= .seq #[.int x t,.int y p]}).objs.size=s.heap.objs.size+1:=hV ..
 have m:∀(i:Nat) (v:Value),(#[.int x t,.int y p]:Array Value)[i]? =some v->∃t,v= .int (if i=0 then x else y) t:=λi v l=>by
  match i,l with
  |0,l=>simp at l;calc⟨t,by rw[<-l];rfl⟩
  |1,l=>simp at l;calc⟨p,by rw[<-l];rfl⟩
  |i+2,l=>simp at l
 refine call_max_two<|BU H ⟨_,_,_,_,_,_,_,rfl,Walks.tuple (A:=A.in1) r.handled _ s.heap.objs.size (by rw[g];calc hZ<|pa _) #[.int x t,.int y p],⟨⟨_,dy _ rfl,rfl,rfl⟩,H.push _⟩,λb hb=>?_,Nat.zero_lt_succ 1,T9 _ m,λv h' N I hk=>?_⟩
 .show b<(Heap.push _ _).objs.size;rw[hV,g];rw[g] at hb;rcases dD.mp hb with rfl|hb
  .exact pa _
  .rcases dD.mp hb with rfl|hb
   .exact tU<|pa _
   .exact cX hb
 .refine ai (m _ _ I) λz D=>?_;clear I;subst D
  have e:(if CX (λi j=>decide<|(if i=0 then x else y)>(if j=0 then x else y)) ((#[.int x t,.int y p]:Array Value).size -1)=0 then x else y)=if y>x then y else x:=by
   have e1:CX (λi j=>decide<|(if i=0 then x else y)>(if j=0 then x else y)) 1=if y>x then 1 else 0:=by
    by_cases h:y>x
    .simp[CX,h]
    .simp[CX,h]
   show(if CX _ 1=0 then x else y)=_;rw[e1];by_cases h:y>x
   .rw[if_pos h,if_pos h,if_neg (by decide)]
   .rw[if_neg h,if_neg h,if_pos rfl]
  calc⟨B,O,.d<|.int<|if y>x then y else x,Look.le_refl B,S.grow rfl rfl λb o e=>hk b o (λhm=>?_)<|bW _<|bW _ e,⟨z,by rw[<-e]⟩,q⟩;have C:b<s.heap.objs.size:=fN e;rw[((ci.mp hm).trans g)] at C;calc Hw _<|BW C
theorem Zt{x:Str}{name:Str}{id:String}{P:Value->List PV->Prop}(sl:Slot "str" name id)(h:zn (.builtin id)=pure (.type "method_descriptor"))(p:P (.builtin id) [.d (.str x)]):nL c (.d<|.str x) name O P:= .mk λA B R s v pl Z S g z=>by
 obtain⟨t,e⟩:=_root_.id g;rw[e] at g|-
 with_reducible exact Hj (HQ s x t) PySem.F.plainAttrs_str sl h (λb hb=>Value.noConfusion hb)<|z (.builtin id) [.str x t] [.d (.str x)] .bi (bC.one g) p
set_option maxRecDepth 20000 in
theorem Ws(q:Q (.d<|.bool<|Txt.isspace x) O):aW c k (.builtin "str.isspace") [.d (.str x)] O Q:= .mk λA B R s vs r S g=>by obtain⟨v,rfl,t,rfl⟩:=g.un;exact call_gives F5 (HQ _ _ _) PySem.F.entry_str_isspace (PySem.F.args_str_isspace_1 _) (gives_str_isspace x t) ⟨B,O,.d<|.bool _,Look.le_refl B,S,rfl,q⟩
set_option maxRecDepth 20000 in
theorem Vz(q:Q (.d<|.bool<|Txt.contains x y) O):gF c k (jY .In) (.d<|.str y) (.d<|.str x) O Q:= .mk λA B R s j l r S p g=>ai p λt e=>ai g λu h=>by rw[e,h];calc P.in_str ⟨B,O,.d<|.bool _,Look.le_refl B,S,rfl,q⟩
theorem YV{prog:eN}{w:bR}{g:Look}{ns:List Str}:∀{es:List en},aT w g (ns.map .str) (es.map (·.key))->es.map (·.hash)=mB w (ns.map .str)->PySem.Pairs (ue prog w) es (ns.zip (es.map (·.val)))/\∀e∈es,∃k,(ue prog w).is k e.key=true/\e.hash=(ue prog w).hash k:=by
 induction ns with
 |nil=>
  intro es h _;rw[Ot.mp h];calc⟨.nil,λe he=>nomatch he⟩
 |cons n ns l=>
  intro es h hh;calc mr h λv vs e p hs=>?_;clear h;cases es with
  |nil=>calc nE e
  |cons e1 es=>
   have h1:e1.key=v:=(dN e).1;rw[<-((dN e).2)] at hs;rw[<-h1] at p;have j:=dN hh;have l:=l hs j.2;have hk:(ue prog w).is n e1.key=true:=ai p λt e=>by rw[e];show T7 n (.str n t)=true;simp[T7]
   calc⟨.cons hk rfl l.1,λq m=>(dD.mp m).elim (λe=>⟨n,e▸hk,e▸j.1⟩)<|l.2 q⟩
theorem SV{prog:eN}{w:bR}{g:Look}{j:List<|Str×Value}{es:List en}(h:PySem.Pairs (ue prog w) es j):(∀e∈es,∃k,(ue prog w).is k e.key=true/\e.hash=(ue prog w).hash k)->aT w g (j.map λe=> .str e.1) (es.map (·.key))/\es.map (·.hash)=mB w (j.map λe=> .str e.1)/\es.map (·.val)=j.map (·.2):=by
 induction h with
 |nil=>calc λZ=>aR rfl rfl rfl
 | @cons e kv _ _ h1 p L q=>
  calc λhk=>aN (q λr l=>hk r<|dw _ l) λz C D=>ai (hk e dC) λN m=>aw m λH I=>?_;refine ai (Value.isStrOf_shape h1) λt J=>aR ⟨e.key,_,rfl,⟨t,J⟩,z⟩ ?_ ?_
  .show e.hash::_=hashStr w kv.1::_;rw[C,I,((ue prog w).inj _ _ _ H h1)];rfl
  .show e.val::_=kv.2::_;rw[D,p]
theorem XI{α j:Type}{f:α->j}:∀{l:List α},(l.map f).Nodup->l.Nodup:=by
 intro g;induction g with
 |nil=>
  calc λZ=>hX
 |cons x l m=>
  intro h;rw[dK,iM] at h;calc iM.mpr ⟨λhm=>h.1<|bb.mpr ⟨x,hm,rfl⟩,m h.2⟩
theorem tK{α m:Type}:∀{a:List α} {b:List m},a.length=b.length->(a.zip b).map (·.1)=a:=by
 intro g;induction g with
 |nil=>
  intro j;cases j with
  |nil=>
   calc λZ=>rfl
  |cons _ _=>
   intro h;simp at h
 |cons x a p=>
  intro l;cases l with
  |cons y b=>
   intro h;rw[tQ,dK,p (by simpa using h)]
  |nil=>
   intro h;simp at h
theorem IS{α m:Type}:∀{a:List α} {b:List m},a.length=b.length->(a.zip b).map (·.2)=b:=by
 intro g;induction g with
 |nil=>
  intro j;cases j with
  |nil=>
   calc λZ=>rfl
  |cons _ _=>
   intro h;simp at h
 |cons x a p=>
  intro l;cases l with
  |cons y b=>
   intro h;rw[tQ,dK,p (by simpa using h)]
  |nil=>
   intro h;simp at h
theorem JW{ns:List Str}{vs:List Dt}{Q:PV->al->Prop}(p:ns.length=vs.length)(hs:small ns.length)(q:∀a,O a=none->Q (.ref a) (upd O a<|.aM<|(ns.map .str).zip<|vs.map .d)):aW c k (.type "dict") [.d (.aM (ns.map .str) vs)] O Q:= .mk λA B R s vv r S rv=>by
 calc ai rv.un λv j=>aw j λC hv=>?_;clear j;subst C;calc jV (be.aM hv) λa o es e j=>qY j λC H ho hx hd D I=>?_;clear j;clear rv hv;subst C;calc aw (YV (prog:=c.prog) D.a D.b) λhp hk=>?_;have l:ns.length=(es.toList.map (·.val)).length:=by rw[I.length,p]
 have X:((ns.zip (es.toList.map (·.val))).map (·.1)).Nodup:=by rw[tK l];exact XI D.c
 calc PySem.kt_call_dict (by rw[beq_eq_false_iff_ne];calc H) ⟨o,es,e,(S.fb _ _ ho),hx,hd,λe he=>hk e<|by simpa using he,hp,X⟩ (by rw[S7,<-l,HA];calc hs.line) λh' Y Z=>?_;obtain⟨o',J,L,a0,⟨N,P,T⟩,z,a1,a2,a3⟩:=Y;calc aN (SV (g:=B) a2 λe he=>a1 e<|by simpa using he) λb1 b2 b3=>?_;have hz:(ns.zip (es.toList.map (·.val))).map (λe=>Dt.str e.1)=ns.map .str:=by rw[show(λe:Str×Value=>Dt.str e.1)=Dt.str∘CO from rfl,<-bg,tK l]
 rw[hz] at b1 b2;rw[IS l] at b3;have f:=S.fresh;have eo:o'={cls:= .type "dict",data:= .dict J L}:=by obtain⟨cl,dd,dt,sl⟩:=o';simp only at N P T z;subst N P T z;rfl
 have U:Sat c B O R {s with heap:=h'}:=S.grow rfl rfl λb ob e=>Z.extBut b ob (λhh=>by have:=fN e;rw[hh] at this;calc Hw _ this)<|bW _ e;have h:(ns.map Dt.str).length=(vs.map PV.d).length:=by simp[p]
 refine⟨B,_,.ref _,Look.le_refl B,U.own (m:= .aM<|(ns.map .str).zip<|vs.map .d) f.1 f.2.2 a0 ⟨J,L,eo,?_,?_,?_,?_,?_,?_⟩,rfl,q _ f.2.1⟩
 .rw[tK h];exact b1
 .rw[IS h,b3];exact bC.AD I
 .rw[tK h];exact b2
 .rw[tK h];exact D.c
 .rw[tK h];exact D.d
 .rw[tK h];calc D.e
theorem Zg:CK (.type "zip") "__len__"=pure none:=by rw[Ht,GL];kernel_rfl
theorem Rz:CK (.type "zip") "__length_hint__"=pure none:=by rw[Ht,GL];kernel_rfl
noncomputable def xI(h:Heap)(g:Value)(j:Bool):Prop:=(g= .none/\j=false)\/∃(T:Nat) (oT:Obj),g=cF (T:Nat)/\h.get? T=some oT
theorem Uf{A:cj}{s:aA}{n t1 t2 i:Nat}{q:Value}{r:Bool}{xs ys:Array Value}{x y:Value}{Q:Option Value->aA->Prop}(h1:t1<n)(C:t2<n)(hf:xI s.heap q r)(Z:fY s.heap n t1 t2 q r i)(h:s.heap.IsTuple t1 xs)(j:s.heap.IsTuple t2 ys)(D:xs[i]? =some x)(hy:ys[i]? =some y)(H:∀h' l m,fY h' n t1 t2 l m (i+1)->xI h' l m->h'.get? s.heap.objs.size=some (eB x y)->(∀c o,¬(n<=c/\c<=n+4)->s.heap.get? c=some o->h'.get? c=some o)->Q (some<|.ref s.heap.objs.size) {s with heap:=h'}):ao (aO c.prog c.w) A (gM<|.ref<|n+4) Q EF s:=by
 have L:n+4<s.heap.objs.size:=fN Z.z;calc af<|nZ<|jW (name:=ak "__next__") Z.type rV<|eL rV Z.type Gy ?_<|Gw _;rcases hf with⟨rfl,rfl⟩|⟨T,oT,rfl,I⟩
 .exact Km h1 C Z h j D hy λh' g hp hk=>ap<|H h' _ _ g (.inr<|bv _ _ ⟨rfl,hp⟩) hp hk
 .refine YK h1 C I Z h j D hy λh' g hp hk=>ap<|H h' _ _ g ?_ hp hk;by_cases J:n<=T/\T<=n+4
  .refine aE g.to λP S p=>aw J λN hb=>?_;have:T=n\/T=n+1\/T=n+2\/T=n+3\/T=n+4:=(aq 0x1bf1bf1bf1bf6402f31640cf316404f316c16312132402f31) N hb;rcases this with rfl|rfl|rfl|rfl|rfl
   .exact .inr<|bv _ _ ⟨rfl,g.a⟩
   .exact .inr<|bv _ _ ⟨rfl,g.b⟩
   .exact .inr<|bv _ _ ⟨rfl,g.ti⟩
   .exact .inr<|bv _ _ ⟨rfl,p⟩
   .exact .inr<|bv _ _ ⟨rfl,g.z⟩
  .exact .inr<|bv T oT ⟨rfl,hk _ _ J I⟩
theorem VD{A:cj}{s:aA}{n t1 t2 i:Nat}{j:Value}{l:Bool}{xs:Array Value}{Q:Option Value->aA->Prop}(hh:A.handled=none)(h1:t1<n)(p:t2<n)(hf:xI s.heap j l)(Z:fY s.heap n t1 t2 j l i)(m:s.heap.IsTuple t1 xs)(q:xs[i]? =none)(r:∀h',(∀c o,¬(n<=c/\c<=n+4)->s.heap.get? c=some o->h'.get? c=some o)->Q none {s with heap:=h'}):ao (aO c.prog c.w) A (gM<|.ref<|n+4) Q EF s:=by
 have go:∀oT,((j= .none/\l=false)\/∃T,j=cF (T:Nat)/\s.heap.get? T=some oT)->ao (aO c.prog c.w) A (gM<|.ref<|n+4) Q EF s:=λoT hf=>by calc af<|nZ<|jW (name:=ak "__next__") Z.type rV<|eL rV Z.type Gy (IJ (oT:=oT) h1 p (hh) Z hf m q λh' e hk he=>?_)<|Gw _;calc ai he λo g=>?_;exact af<|sc (T:="StopIteration") (b:=true) ⟨o,g.1,g.2⟩ Cp<|ap<|r h' hk
 rcases hf with h|⟨T,oT,h⟩
 .exact go default<|.inl h
 .exact go oT<|.inr ⟨T,h⟩
theorem ZI{n t1 t2 l:Nat}{o1 o2:Obj}{xs ys:Array Value}{e1 e2:Nat}{R:Look}(h1:t1<n)(h2:t2<n)(a6:o1.cls= .type "tuple")(b6:o2.cls= .type "tuple")(a7:o1.data= .seq xs e1)(b7:o2.data= .seq ys e2):∀(us vs:List Dt) (i:Nat) {f0:Value} {f1:Bool} {A:cj} {B:Look} {O:al} {s:aA} {items:List PV},A.handled=none->us.length=vs.length->B t1=some o1->B t2=some o2->xI s.heap f0 f1->fY s.heap n t1 t2 f0 f1 i->Sat c B O R s->(∀a:Nat,n<=a->a<=n+4->B a=none/\O a=none/\R a=none)->aT c.w B us (xs.toList.drop i)->aT c.w B vs (ys.toList.drop i)->O l=some (.lst items)->small (items.length+us.length)->lz (aO c.prog c.w) A (.builtin "list.extend.loop" ⟨[.ref l,.ref<|n+4,.none],[]⟩) (λrr s'=>match rr with| .ok (.ret v)=>v= .none/\∃B',B.le B'/\Sat c B' (upd O l<|.lst<|items++mX us vs) R s'|_=>False) s:=by
 intro b8;induction b8 with
 |nil=>
  intro b9;cases b9 with
  |nil=>
   calc λi f0 f1 A B O s items hh _ I Y hf Z S j ru rv r hs=>pc Gq ?_;rw[rW tN _];show ao _ A.in1 (gM (.ref<|n+4)>>=_) _ _ s;have hx:xs[i]? =none:=by have:xs.toList.drop i=[]:=ru;rw[<-fj];rw[BP] at this;exact qp this
   refine af<|kC<|VD (hh) h1 h2 hf Z ⟨o1,S.fb _ _ I,a6,e1,a7⟩ hx λh' hk=>?_
   have S':Sat c B O R {s with heap:=h'}:=S.keep rfl rfl λb o e hb=>hk b o (λN=>by
    calc aN (j b N.1 N.2) λJ L g3=>?_;rcases hb with hb|hb|⟨m,hb⟩
    .rw[J] at hb;exact bp hb
    .rw[g3] at hb;exact bp hb
    .rw[L] at hb;calc bp hb) e
   calc ap ⟨rfl,B,Look.le_refl B,?_⟩;have:upd O l (.lst<|items++mX [] [])=O:=by rw[show items++mX [] []=items from ea _];exact Ge r
   rw[this];calc S'
  |cons _ _=>
   intro _ _ _ _ _ _ _ _ _ r _ _ _ _ _ _ _ _ _ _;simp at r
 |cons u us c0=>
  intro c1;cases c1 with
  |nil=>
   intro _ _ _ _ _ _ _ _ _ r _ _ _ _ _ _ _ _ _ _;simp at r
  |cons v vs=>
   intro i f0 f1 A B O s items hh p I Y hf Z S j c2 c3 r hs;obtain⟨x,c4,a8,rx,c5⟩:=c2;obtain⟨y,c6,a9,ry,c7⟩:=c3;calc pc Gq ?_;rw[rW tN _];show ao _ A.in1 (gM (.ref<|n+4)>>=_) _ _ s;have hx:xs[i]? =some x:=by have:=congrArg (·[0]?) a8;simpa using this
   have hy:ys[i]? =some y:=by have:=congrArg (·[0]?) a9;simpa using this
   have ex:c4=xs.toList.drop (i+1):=by simpa using(congrArg um a8).symm
   have ey:c6=ys.toList.drop (i+1):=by simpa using(congrArg um a9).symm
   calc af<|kC<|Uf h1 h2 hf Z ⟨o1,S.fb _ _ I,a6,e1,a7⟩ ⟨o2,S.fb _ _ Y,b6,e2,b7⟩ hx hy λh' b0 b1 q a0 hp hk=>?_;have c8:n+4<s.heap.objs.size:=fN Z.z
   have S':Sat c B O R {s with heap:=h'}:=S.keep rfl rfl λb o e hb=>hk b o (λN=>by
    calc aN (j b N.1 N.2) λJ L g3=>?_;rcases hb with hb|hb|⟨m,hb⟩
    .rw[J] at hb;exact bp hb
    .rw[g3] at hb;exact bp hb
    .rw[L] at hb;calc bp hb) e
   have f:=S.fresh;have C:=S'.rG f.1 f.2.2 hp;rw[rM f.2.1] at C;have le:=fW (B:=B) (a:=s.heap.objs.size) (o:=eB x y) f.1;calc aE (C.lst r) λa1 e D=>?_;have ho:=D.1;have P:=D.2;have c9:l≠s.heap.objs.size:=by rintro rfl;rw[f.2.1] at r;exact bp r
   have a2:¬(n<=l/\l<=n+4):=λN=>by have:=(j l N.1 N.2).2.1;rw[r] at this;exact cU this
   have H:a1.size=items.length:=P.size;simp only[bP] at hs p;show ao _ A.in1 (uu l (·.push (.ref s.heap.objs.size))>>=_) _ _ _;calc af<|wG ho rfl ?_ (by rw[H,dO];calc(aV 0x21af1603fc205f4c161a) p hs H) (by show(a1.push _).size<=_;rw[ua,H,dO];calc(aV 0x2481afb603fc205f4c161a) p hs H);have hg:(h'.update l (dc (·.push (.ref s.heap.objs.size)))).get? l=some {cls:= .type "list",data:= .seq (a1.push<|.ref s.heap.objs.size)<|e+1}:=by rw[fK _ ho (by rw[qz];rfl),qz]
   have U:=C.turn (m:= .lst<|items++[.d (.tup [u,v])]) r (dA ..) hg ⟨_,_,rfl,by rw[kH];calc P.append<|.one ⟨_,_,_,_,rfl,eE ..,rfl,rfl,_,_,rfl,rx.mono le,_,_,rfl,ry.mono le,rfl⟩⟩;have g:∀a o,n<=a->a<=n+4->h'.get? a=some o->(h'.update l (dc (·.push (.ref s.heap.objs.size)))).get? a=some o:=λa o J L e=>(dA ..).extBut a o (λhh=>a2<|hh▸⟨J,L⟩) e;have X:fY (h'.update l (dc (·.push (.ref s.heap.objs.size)))) n t1 t2 b0 b1 (i+1):=by exact aE q.to λx' y' d0=>⟨g _ _ (xG) (vg) q.a,g _ _ (Q8) ((aB 37760795)) q.b,g _ _ ((aB 37768977)) ((aB 2474691003633)) q.ti,bv x' y'<|g _ _ ((aB 37801745)) ((aB 2474691005681)) d0,g _ _ (vg) ((aB 2474691003121)) q.z⟩
   have a3:xI (h'.update l (dc (·.push (.ref s.heap.objs.size)))) b0 b1:=by
    rcases a0 with h|⟨T,oT,h,hT⟩
    .exact .inl h
    .by_cases b2:T=l
     .clear ho r X a2 g c9 U D;subst b2;exact .inr<|bv _ _ ⟨h,hg⟩
     .exact .inr<|bv T oT ⟨h,(dA ..).extBut T oT (eg b2) hT⟩
   have ih:=c0 vs (i+1) (A:=A) (B:=B.set s.heap.objs.size<|eB x y) (items:=items++[.d (.tup [u,v])]) hh ((aq 6493899) p) (le _ _ I) (le _ _ Y) a3 X U (λa J L=>?_) (ex▸aT.mono le c5) (ey▸aT.mono le c7) (by unfold upd;rw[if_pos rfl])<|by unfold small;rw[bA];simp;exact(aV 0x205f43b603fc205f4c161a) p hs H
   .refine ap ⟨wI tN _,lW ih λrr s' z=>?_⟩;rcases rr with e|(v|_|_|_)
    .exact z.elim
    all_goals first|exact z.elim|skip
    have D:=z.1;have b3:=z.2;calc ai b3 λB' a5=>?_;have l':=a5.1;have b4:=a5.2;clear b3 a5 z;subst D;calc⟨rfl,B',Look.le_trans le l',?_⟩;have:upd (upd O l<|.lst<|items++[.d (.tup [u,v])]) l (.lst<|items++[.d (.tup [u,v])]++mX us vs)=upd O l (.lst<|items++mX (u::us) (v::vs)):=by rw[yh,eK];rfl
    rw[<-this];exact b4
   .refine aN (j a J L) λg3 g4 g5=>?_;have b5:a≠l:=λhh=>a2<|hh▸⟨J,L⟩;calc aR (by unfold Look.set;rw[if_neg (eg<|(ax 0xd63173402f52152402f51) c8 J L)];calc g3) (by unfold upd;rw[if_neg b5];calc g4) g5
theorem XF{n t1 t2 l:Nat}{U X:Obj}{xs ys:Array Value}{e1 e2:Nat}{A:cj}{B R:Look}{s:aA}{items:List PV}{us vs:List Dt}{Q:Value->aA->Prop}(h1:t1<n)(h2:t2<n)(Y:U.cls= .type "tuple")(a0:X.cls= .type "tuple")(a1:U.data= .seq xs e1)(a2:X.data= .seq ys e2)(hh:A.handled=none)(g:us.length=vs.length)(a3:B t1=some U)(a5:B t2=some X)(Z:fY s.heap n t1 t2 .none false 0)(S:Sat c B O R s)(p:∀a:Nat,n<=a->a<=n+4->B a=none/\O a=none/\R a=none)(ru:aT c.w B us xs.toList)(rv:aT c.w B vs ys.toList)(I:O l=some (.lst items))(hs:small<|items.length+us.length)(q:∀B' s',B.le B'->Sat c B' (upd O l<|.lst<|items++mX us vs) R s'->Q .none s'):ao (aO c.prog c.w) A (call (.builtin "list.extend") [.ref l,.ref (n+4)]) Q EF s:=by
 calc aE (S.lst I) λr e C=>?_;have ho:=C.1;have D:=C.2;calc PZ<|R9 rT.plain Oa<|rT.check _ _ _ _ _ _ _ _ ⟨_,ho,rfl⟩ (NY _ _) ?_;show ao _ _ (NU (.ref l) (.ref<|n+4) .none) _ _ s;have a6:l≠n+4:=λhh=>by have:=(p l ((aq 150697160467) hh)<|(aq 0x2402f316402f31) hh).2.1;rw[I] at this;exact cU this
 have j:r.size=items.length:=D.size;calc af<|ug Z.type ?_;have g1:BI (.ref l) (.ref<|n+4)=false:=by simp[BI,a6]
 have g2:(kJ "zip"==kJ "list")=false:=by decide
 have g3:(kJ "zip"==kJ "tuple")=false:=by decide
 calc cw (by rw[g1,g2,g3];rfl) ?_;calc af<|Di Z<|af<|co ?_;calc af<|pb Z.type Zg ?_;show ao _ _ (specialOf (lY<|n+4) (ak "__length_hint__")>>=_) _ _ _;calc af<|pb Z.type Rz<|ap ?_;show ao _ _ (rule "list.extend.makes-room">>=λ_=>Builtin.List.listTouch (.ref l)>>=λ_=>pB<|.builtin "list.extend.loop" ⟨[.ref l,.ref<|n+4,.none],[]⟩) _ _ _;calc af<|fq<|af ?_;show ao _ _ (uu l (·.push .none)>>=λ_=>uu l (·.pop)) _ _ _;calc af<|wG ho rfl ?_ (by rw[j,dO];calc(aV 0x21af1653205f43161a) g hs j) (by show(r.push _).size<=_;rw[ua,j,dO];calc(aV 0x2481afb653205f43161a) g hs j);have J:(s.heap.update l (dc (·.push ga))).get? l=some {cls:= .type "list",data:= .seq (r.push .none)<|e+1}:=by rw[fK _ ho (by rw[qz];rfl),qz]
 calc wG J rfl ?_ (by rw[ua,j,dO];calc(aV 0x21afb653205f43161a) g hs j) (by show(Array.pop _).size<=_;rw[Array.size_pop,ua,j,dO];calc(aV 0x2481af98b653205f43161a) g hs j);obtain⟨e3,a7⟩:∃e3,((s.heap.update l (dc (·.push ga))).update l (dc (·.pop))).get? l=some {cls:= .type "list",data:= .seq r e3}:=by have h:=fK (dc (·.pop)) J rfl;unfold dc at h;dsimp only at h;rw[T1] at h;exact⟨_,h⟩
 have same:lU l s.heap ((s.heap.update l (dc (·.push ga))).update l (dc (·.pop))):=(dA ..).trans<|dA ..;have H:=S.turn (m:= .lst items) I same a7 ⟨_,_,rfl,D⟩;rw[Ge I] at H;have kz:∀a o,n<=a->a<=n+4->s.heap.get? a=some o->((s.heap.update l (dc (·.push ga))).update l (dc (·.pop))).get? a=some o:=λa o g1 g2 e=>same.extBut a o (λhh=>by have:=(p l (hh▸g1)<|hh▸g2).2.1;rw[I] at this;calc cU this) e;have L:fY ((s.heap.update l (dc (·.push ga))).update l (dc (·.pop))) n t1 t2 .none false 0:=by exact aE Z.to λx' y' a8=>⟨kz _ _ (xG) (vg) Z.a,kz _ _ (Q8) ((aB 37760795)) Z.b,kz _ _ ((aB 37768977)) ((aB 2474691003633)) Z.ti,bv x' y'<|kz _ _ ((aB 37801745)) ((aB 2474691005681)) a8,kz _ _ (vg) ((aB 2474691003121)) Z.z⟩
 calc ap ⟨wI tN _,lW (ZI h1 h2 Y a0 a1 a2 us vs 0 (A:=A) (hh) g a3 a5 (.inl ⟨rfl,rfl⟩) L H p (by simpa using ru) (by simpa using rv) I<|(aq 9111940924568625) hs) λrr s' z=>?_⟩;rcases rr with e|(v|_|_|_)
 .exact z.elim
 all_goals first|exact z.elim|skip
 calc aw z λC N=>ai N λB' P=>aw P λl' T=>?_;clear N P z;subst C;calc q B' s' l' T
inductive Uy (l:Addr) (Q:PV->al->Prop) (ps:List PV) (O:al):Prop
 |mk (us vs:List Dt) (items:List PV) (e:ps=[.d (.tup us),.d (.tup vs)]) (hl:us.length=vs.length) (h:O l=some (.lst items)) (hs:small<|items.length+us.length) (q:Q (.d .none)<|upd O l<|.lst<|items++mX us vs)
inductive Tt (c:Cx) (k:Nat) (V:Env) (ρ:az) (zargs:List Expr) (l:Addr) (Q:PV->al->Prop) (p:PV) (O:al):Prop
 |mk (e:p= .ex (.type "zip")) (h:jz c k V ρ zargs O<|Uy l Q)
inductive ZM (c:Cx) (k:Nat) (V:Env) (ρ:az) (f:Expr) (zargs:List Expr) (Q:PV->al->Prop) (p:PV) (O:al):Prop
 |mk (l:Addr) (e:p= .ref l) (hl:∃its,O l=some (.lst its)) (h:WE c k V ρ f O<|Tt c k V ρ zargs l Q)
theorem Zk{o f:Expr}{D:Pos}{g:List Expr}{j C:Pos}{pl:Sem Bool}{Q:PV->al->Prop}(he:eval (.Call (.Attribute o "extend" D) [.Call f g [] j] [] C) V=(do
   let ov <-eval o V;ix D.atName;let (f',first) <-gL [ov] (getMethod ov "extend" pl);nv C f' first (backTo C<|starEach [.Call f g [] j] V) []))
  (hs:starEach [.Call f g [] j] V=[(false,eval (.Call f g [] j) V)])
  (b9:eval (.Call f g [] j) V=(eval f V>>=λv=>nv j v [] (backTo j<|starEach g V) [])) (U:(starEach g V).all (λx=> !x.1)=true)
  (h:WE c k V ρ o O<|ZM c k V ρ f g Q):WE c k V ρ (.Call (.Attribute o "extend" D) [.Call f g [] j] [] C) O Q:= .mk λA B R s r S L=>by
 rw[he];calc af<|aS (h.1 A B R s r S L) (λv s₁ h₁=>?_) λ_ _ x=>x;obtain⟨I,c0,po,l₁,J,Y,l,rfl,⟨c8,a0⟩,q⟩:=h₁;calc af<|hY<|af<|co<|(ij (P:=λfv ps=>fv= .builtin "list.extend"/\ps=[.ref l]) a0 rT BJ ⟨rfl,rfl⟩).1 A I R s₁ v pl _ J Y λfv fs ps hf rv hP=>?_;have p:=hP.1;have H:=hP.2;clear hP;subst p;subst H;calc ai rv.un λv' p=>?_;have H:=p.1;have c1:=p.2;clear p;subst H;clear rv;subst c1;calc wQ (plain_any<|by rw[hs];rfl) (λhp X=>hf.keeps hp X)<|wm (by rw[hs];rfl) ?_;rw[hs];show ao _ _ (uB<|backTo C [(false,eval (.Call f g [] j) V)]) _ _ s₁;show ao _ _ (eval (.Call f g [] j) V>>=λv=>pure [v]>>=λhere=>gL here (uB<|backTo C [])>>=λrest=>pure<|here++rest) _ _ s₁;rw[b9];calc af<|af<|aS (q.1 A I R s₁ r J<|L.mono l₁) (λzf s₂ a1=>?_) λ_ _ x=>x;obtain⟨a2,c2,pf,l₂,a3,a5,rfl,a6⟩:=a1;rw[show zf= .type "zip" from a5];calc wQ (plain_any U) (λhp X=>(Callee.ty (c:=c)).keeps hp X)<|wm U<|aS (a6.1 A a2 R s₂ j r a3<|L.mono<|Look.le_trans l₁ l₂) (λc9 z a7=>?_) λ_ _ x=>x;obtain⟨a8,T,ps,a9,m,b0,us,vs,items,rfl,b1,hl,c3,b2⟩:=a7;calc⟨m.gy,aE b0.pJ λv1 v2 p=>aN p λH c4 c5=>?_⟩;clear p;subst H;obtain⟨t1,o1,xs,e1,rfl,b3,b4,b5,c6⟩:=c4;obtain⟨t2,o2,ys,e2,rfl,b6,b7,b8,c7⟩:=c5;have g1:=m.fb _ _ b3;have g2:=m.fb _ _ b6;calc Jc ⟨o1,g1,b4,e1,b5⟩ ⟨o2,g2,b7,e2,b8⟩<|aN (DM (h:=z.heap) (t1:=t1) (t2:=t2)) λ_ Z hk=>?_;have N:Sat c a8 T R {z with heap:=zh z.heap t1 t2}:=m.grow rfl rfl hk;refine af<|ap<|af<|co<|ap<|ap ⟨N.gy,XF (fN g1) (fN g2) b4 b7 b5 b8 r.handled b1 b3 b6 Z N (λa h1 h2=>?_) c6 c7 hl c3 λB' s' l' S'=>⟨B',_,.d .none,Look.le_trans l₁<|Look.le_trans l₂<|Look.le_trans a9 l',S',rfl,b2⟩⟩
 .have hn:z.heap.get? a=none:=gA _ h1;calc aR (m.qK hn) (m.qf hn)<|m.pG hn
noncomputable def Ag(ns:List Str)(ρ g:az):Prop:=∀x,ns.all (λy=> !decide (x=y))=true->g x=ρ x
theorem Ag.refl{ns:List Str}:Ag ns ρ ρ:=λZ Z=>rfl
theorem Ag.tr{ns:List Str}{x:Str}(a:Ag ns ρ g)(h:ns.all (λy=> !decide (x=y))=true)(e:ρ x=some p):g x=some p:=(a x h).trans e
theorem Ag.set{ns:List Str}{x:Str}(a:Ag ns ρ g)(h:ns.all (λy=> !decide (x=y))=false):Ag ns ρ (aZ g x p):=λy hy=>by unfold Internal.aZ;rw[if_neg (by rintro rfl;rw[h] at hy;calc ek hy)];calc a y hy
theorem Ag.up{ns g:List Str}(b:Ag g l j)(h:g.all (λz=> !ns.all (λy=> !decide (z=y)))=true)(a:Ag ns ρ l):Ag ns ρ j:=λx m=>by
 calc(b x ?_).trans<|a x m;rw[jb];intro z hz;have:=jb.mp h z hz;cases e:decide (x=z) with
 |false=>rfl
 |true=>rw[of_decide_eq_true e] at m;rw[m] at this;calc ek this
theorem mid(h:l=d++a::t):a∈l:=h▸cn _ (.head _)
theorem yd{α:Type}{l d t:List α}(h:l=d++t){x:α}(g:x∈d):x∈l:=h▸dh _ g
theorem nS(h:l=d++a::t):d.length+1<=l.length:=by rw[h,bA];calc oY (iv<|cO _) _
inductive jl {α:Type} (g:α->PV) (l:List α) (I:List α->Prop) (xs:List PV):Prop
 |mk (done todo:List α) (hd:l=done++todo) (hz:xs=todo.map g) (hI:I done)
theorem jl.fin(h:jl g l I []):I l:=by
 cases h with|mk done j hd hz m=>
 cases j with
 |nil=>rw[hd,ea];calc m
 |cons=>calc nE hz
theorem jl.step{α:Type}{g:α->PV}{l:List α}{I:List α->Prop}{M:PV->List PV->Prop}(h:jl g l I (z::zs))(k:∀done a j,l=done++a::j->I done->(∀J:List α->Prop,J (done++[a])->jl g l J (j.map g))->M (g a) (j.map g)):M z zs:=by
 cases h with|mk done j hd hz m=>
 cases j with
 |nil=>calc rq hz
 |cons a j=>cases hz;calc k done a j hd m λJ p=>⟨done++[a],j,by rw[hd,eK];rfl,rfl,p⟩
theorem Mn{α:Type}(ns:List Str)(I:List α->al->az->Prop){g:α->PV}{l:List α}{xs:List PV}{Q:Fl->al->az->Prop}(e:xs=l.map g)(h0:I [] O ρ)(step:∀done a p O j (q:Fl->al->az->Prop),l=done++a::p->I done O j->Ag ns ρ j->(∀O j,I (done++[a]) O j->Ag ns ρ j->q .next O j)->cW c k V j m (g a) O (mu c k V body q))(fin:∀O j,I l O j->Ag ns ρ j->Q .next O j):oQ c k V ρ m body Q xs O:=⟨λzs ah j=>jl g l (λd=>I d ah j/\Ag ns ρ j) zs,⟨[],l,rfl,e,h0,Ag.refl⟩,λZ Z Z Z q r h=>jl.step (M:=λz zs=>(∀fl O j,Lp (λzs ah j=>jl g l (λd=>I d ah j/\Ag ns ρ j) zs) Q zs fl O j->q fl O j)->cW c k V _ m z _ (mu c k V body q)) h (λdone a p hd C D r=>step done a p _ _ q hd C.1 C.2 λZ Z h1 H=>r .next _ _ (D _ ⟨h1,H⟩)) r,λZ Z h=>fin _ _ h.fin.1 h.fin.2⟩
theorem forL{α:Type}(ns:List Str)(I:List α->al->Prop){g:α->PV}{l:List α}{xs:List PV}{Q:Fl->al->az->Prop}(e:xs=l.map g)(h0:I [] O)(step:∀done a m O h (p:Fl->al->az->Prop),l=done++a::m->I done O->Ag ns ρ h->(∀O h,I (done++[a]) O->Ag ns ρ h->p .next O h)->cW c k V h j (g a) O (mu c k V body p))(fin:∀O h,I l O->Ag ns ρ h->Q .next O h):oQ c k V ρ j body Q xs O:=Mn ns (λd O Z=>I d O) e h0 step fin
theorem xq{α:Type}(ns:List Str)(I:List α->az->Prop){g:α->PV}{l:List α}{xs:List PV}{Q:Fl->al->az->Prop}(e:xs=l.map g)(h0:I [] ρ)(step:∀done a m j (z:Fl->al->az->Prop),l=done++a::m->I done j->Ag ns ρ j->(∀j,I (done++[a]) j->Ag ns ρ j->z .next O j)->cW c k V j p (g a) O (mu c k V body z))(fin:∀j,I l j->Ag ns ρ j->Q .next O j):oQ c k V ρ p body Q xs O:=Mn ns (λd ah j=>ah=O/\I d j) e ⟨rfl,h0⟩ (λdone a m ah j z hd q C D=>q.1▸step done a m j z hd q.2 C λr h=>D O r ⟨rfl,h⟩) λah j q=>q.1▸fin j q.2
inductive TE (b n:Nat) (I:Nat->Prop) (xs:List PV):Prop
 |mk (i m:Nat) (hm:i+m=b+n) (hb:b<=i) (hz:xs=(iota (i:Int) m).map λi=> .d<|.int i) (hI:I i)
theorem FM{b n:Nat}(ns:List Str)(I:Nat->al->az->Prop){xs:List PV}{Q:Fl->al->az->Prop}(e:xs=(iota (b:Int) n).map λi=> .d<|.int i)(h0:I b O ρ)(step:∀(i:Nat) O g (l:Fl->al->az->Prop),b<=i->i<b+n->I i O g->Ag ns ρ g->(∀O g,I (i+1) O g->Ag ns ρ g->l .next O g)->cW c k V g h (.d<|.int (i:Nat)) O (mu c k V body l))(fin:∀O g,I (b+n) O g->Ag ns ρ g->Q .next O g):oQ c k V ρ h body Q xs O:=by
 refine⟨λzs ah g=>TE b n (λi=>I i ah g/\Ag ns ρ g) zs,⟨b,n,rfl,bS _,e,h0,Ag.refl⟩,λz zs ah g l C q=>?_,λah g q=>?_⟩
 .cases q with|mk i m hm hb hz j=>
  cases m with
  |zero=>calc rq hz
  |succ m=>
   cases hz;exact step i ah g l hb (tR (Nat.lt_add_of_pos_right<|ph m) hm) j.1 j.2 λp r h1 D=>C .next p r ⟨i+1,m,(J3 i m).trans hm,nf hb,rfl,h1,D⟩
 .cases q with|mk i m hm hb hz j=>
  cases m with
  |zero=>rw[<-hm] at fin;calc fin ah g j.1 j.2
  |succ=>calc nE hz
theorem forR{b n:Nat}(ns:List Str)(I:Nat->al->Prop){xs:List PV}{Q:Fl->al->az->Prop}(e:xs=(iota (b:Int) n).map λi=> .d<|.int i)(h0:I b O)(step:∀(i:Nat) O g (j:Fl->al->az->Prop),b<=i->i<b+n->I i O->Ag ns ρ g->(∀O g,I (i+1) O->Ag ns ρ g->j .next O g)->cW c k V g h (.d<|.int (i:Nat)) O (mu c k V body j))(fin:∀O g,I (b+n) O->Ag ns ρ g->Q .next O g):oQ c k V ρ h body Q xs O:=FM ns (λi O Z=>I i O) e h0 step fin
theorem LR{n:Nat}(ns:List Str)(I:Nat->al->az->Prop){xs:List PV}{Q:Fl->al->az->Prop}(e:xs=(iota 1 n).map λi=> .d<|.int i)(h0:I 0 O ρ)(step:∀(i:Nat) O g (j:Fl->al->az->Prop),i<n->I i O g->Ag ns ρ g->(∀O g,I (i+1) O g->Ag ns ρ g->j .next O g)->cW c k V g h (.d<|.int ((i+1:Nat):Int)) O (mu c k V body j))(fin:∀O g,I n O g->Ag ns ρ g->Q .next O g):oQ c k V ρ h body Q xs O:=FM (b:=1) ns (λi=>I<|i -1) e h0 (λi O g j h1 p l=>by
  cases i with
  |zero=>calc absurd h1<|by decide
  |succ i=>calc step i O g j (Nat.lt_of_succ_lt_succ<|tR p<|wK 1 n) l) λO g l=>fin O g<|BN (n:=1) (m:=n)▸l
theorem SJ(ns:List Str)(I:Nat->al->Prop)(e:xs=(iota 1 n).map λi=> .d<|.int i)(h0:I 0 O)(step:∀(i:Nat) O g (j:Fl->al->az->Prop),i<n->I i O->Ag ns ρ g->(∀O g,I (i+1) O->Ag ns ρ g->j .next O g)->cW c k V g h (.d<|.int ((i+1:Nat):Int)) O (mu c k V body j))(fin:∀O g,I n O->Ag ns ρ g->Q .next O g):oQ c k V ρ h body Q xs O:=LR ns (λi O Z=>I i O) e h0 step fin
theorem Vn(ns:List Str)(I:Nat->az->Prop)(e:xs=(iota 1 n).map λi=> .d<|.int i)(h0:I 0 ρ)(step:∀(i:Nat) g (p:Fl->al->az->Prop),i<n->I i g->Ag ns ρ g->(∀g,I (i+1) g->Ag ns ρ g->p .next O g)->cW c k V g j (.d<|.int ((i+1:Nat):Int)) O (mu c k V body p))(fin:∀g,I n g->Ag ns ρ g->Q .next O g):oQ c k V ρ j body Q xs O:=LR ns (λi ah g=>ah=O/\I i g) e ⟨rfl,h0⟩ (λi ah g p hi l q r=>l.1▸step i g p hi l.2 q λm h=>r O m ⟨rfl,h⟩) λah g l=>l.1▸fin g l.2
theorem DH{n:Nat}(ns:List Str)(I:Nat->al->Prop){xs:List PV}{Q:Fl->al->az->Prop}(e:xs=(iota 0 n).map λi=> .d<|.int i)(h0:I 0 O)(step:∀(i:Nat) O g (j:Fl->al->az->Prop),i<n->I i O->Ag ns ρ g->(∀O g,I (i+1) O->Ag ns ρ g->j .next O g)->cW c k V g h (.d<|.int (i:Nat)) O (mu c k V body j))(fin:∀O g,I n O->Ag ns ρ g->Q .next O g):oQ c k V ρ h body Q xs O:=FM (b:=0) ns (λi O Z=>I i O) e h0 (λi O g j Z l=>step i O g j<|tR l<|np n) λO g m=>fin O g<|np n▸m
theorem Fs(h:i<m):∃n,i+(n+1)=m:=⟨m -(i+1),(J3 i _).symm.trans<|wz h⟩
theorem rg(h:i<1+m):∃n,i+(n+1)=m+1:=⟨m -i,congrArg (·+1)<|wz<|ng<|tR h<|wK 1 m⟩
theorem IQ(D:g->m)(h:α->List j)(f:α->j->g)(l:List α):(l.flatMap λa=>(h a).map λb=>D<|f a b)=(l.flatMap λa=>(h a).map<|f a).map D:=by rw[OP];calc congrArg (λf=>List.flatMap f l)<|funext λa=>?_;rw[bg];rfl
theorem wk{α g:Type}{A B C:g->Prop}{P:α->g->Prop}{d:List α}{x:α}(h:∀t,B t↔A t\/∃y∈d,P y t)(k:∀t,C t↔B t\/P x t)(t:g):C t↔A t\/∃y∈d++[x],P y t:=by
 rw[k,h];constructor
 .rintro ((h|⟨y,h,p⟩)|h)
  .exact .inl h
  .exact .inr ⟨y,dh _ h,p⟩
  .exact .inr ⟨x,cn _<|.head _,h⟩
 .rintro (h|⟨y,h,p⟩)
  .exact .inl<|.inl h
  .rcases ca.mp h with h|h
   .exact .inl<|.inr ⟨y,h,p⟩
   .rw[ci.mp h] at p;exact .inr p
@[reducible] noncomputable def Jh (r:List Dt) (J:al->Prop):List Dt->al->Prop:=λg O=>g=r/\J O
@[reducible] noncomputable def IC (d:Dt) (J:al->Prop):PV->al->Prop:=λp O=>p= .d d/\J O
theorem RO(i:∀a O,J a O->m a O)(b:Bool)(O:al)(h:jf (PE c k cenv g l<|vC J j) (J j) b O):jf (PE c k cenv g l<|vC m j) (m j) b O:=by
 cases b with
 |false=>calc i _ _ h
 |true=>calc WE.mono h λp r h=>by cases h with|mk d e q=>calc⟨d,e,i _ _ q⟩
theorem KZ{α:Type}{scope:eb}{xs:List PV}{g:α->PV}{l:List α}{P:List Dt->al->Prop}(J:(iW m).all (λx=>scope.names.lookup x !=some .free)=true)(I:List α->List Dt->al->Prop)(e:xs=l.map g)(D:I [] [] O)(step:∀cenv p done a q j ah,cenv.scope=fP scope V->fS scope ρ p->l=done++a::q->I done j ah->small j.length/\cW c k cenv p m (g a) ah (Aw c k scope ρ cenv r C (I<|done++[a]) j))(fin:∀j ah,I l j ah->P j ah):kG c k V ρ scope (.ListComp C [⟨m,H,r,0⟩] scope L) m xs O P:=kG.mono (Jf J (λxs j ah=>jl g l (λd=>I d j ah) xs) ⟨[],l,rfl,e,D⟩ λcenv p Z Z j ah hc T h=>jl.step (M:=λz zs=>small j.length/\cW c k cenv p m z ah (Aw c k scope ρ cenv r C (λj ah=>jl g l (λd=>I d j ah) zs) j)) h λdone a q hd D N=>aw (step cenv p done a q j ah hc T hd D) λh1 S=>⟨h1,S.mono λU X h=>⟨h.1,h.2.mono<|RO λj O h=>N (λd=>I d j O) h⟩⟩) λj ah h=>fin j ah h.fin
theorem xi{α:Type}{scope:eb}{xs:List PV}{g:α->PV}{l:List α}{P:List Dt->al->Prop}(D:(iW j).all (λx=>scope.names.lookup x !=some .free)=true)(F:List α->List Dt)(I:List α->al->Prop)(e:xs=l.map g)(h0:F []=[])(H:I [] O)(step:∀cenv p done a m ah,cenv.scope=fP scope V->fS scope ρ p->l=done++a::m->I done ah->small (F done).length/\cW c k cenv p j (g a) ah (Aw c k scope ρ cenv q r (Jh (F<|done++[a])<|I<|done++[a])<|F done))(fin:∀ah,I l ah->P (F l) ah):kG c k V ρ scope (.ListComp r [⟨j,C,q,0⟩] scope J) j xs O P:=KZ D (λd=>Jh (F d)<|I d) e ⟨h0.symm,H⟩ (λcenv p done a m z ah hc T hd h=>by rw[h.1];calc step cenv p done a m ah hc T hd h.2) λz ah h=>h.1▸fin ah h.2
inductive Tr (c:Cx) (k:Nat) (V:Env) (ρ:az) (elt:Expr) (J:al->Prop) (r:Bool) (d:Dt) (b:Bool) (O:al):Prop
 |yes (e:b=true) (h:r=true) (q:WE c k V ρ elt O<|IC d J)
 |no (e:b=false) (h:r=false) (q:J O)
theorem Fv{α:Type}{scope:eb}{xs:List PV}{g:α->PV}{l:List α}{P:List Dt->al->Prop}(S:(iW j).all (λx=>scope.names.lookup x !=some .free)=true)(p:α->Bool)(D:α->Dt)(J:al->Prop)(e:xs=l.map g)(hs:small l.length)(C:J O)(step:∀cenv r a ah,cenv.scope=fP scope V->fS scope ρ r->a∈l->J ah->cW c k cenv r j (g a) ah λz m=>fS scope ρ m/\qD c k cenv m H z (Tr c k cenv m I J (p a)<|D a))(fin:∀ah,J ah->P ((l.filter p).map D) ah):kG c k V ρ scope (.ListComp I [⟨j,L,H,0⟩] scope U) j xs O P:=by
 refine xi S (λd=>(d.filter p).map D) (λ_=>J) e rfl C (λcenv r done a N ah hc T hd C=>⟨?_,?_⟩) fin
 .rw[au];exact aL (ww p done)<|aL (ja<|nS hd) hs
 .refine(step cenv r a ah hc T (mid hd) C).mono λX Y h=>⟨h.1,h.2.mono λb Z h=>?_⟩
  have e1:((done++[a]).filter p).map D=(done.filter p).map D++([a].filter p).map D:=by rw[OB,cb]
  rw[e1,wC];cases h with
  |yes e h q=>
   rw[h,e];calc cB rfl<|q.mono λpv a0 h=>⟨D a,h.1,rfl,h.2⟩
  |no e h q=>
   rw[h,e];calc cy rfl ⟨(ea _).symm,q⟩
inductive B9 {β:Type} (c:Cx) (k:Nat) (V:Env) (ρ:az) (target elt:Expr) (J:al->Prop) (bs:List β) (g:β->PV) (f:β->Dt) (ys:List PV) (O:al):Prop
 |mk (e:ys=bs.map g) (hJ:J O) (step:∀b∈bs,∀ρ' ah,(∀z,z∉iW target->ρ' z=ρ z)->J ah->cW c k V ρ' target (g b) ah λμ₄ ρ₄=>(∀z,z∉iW target->ρ₄ z=ρ z)/\WE c k V ρ₄ elt μ₄ (IC (f b) J))
theorem EE{α Z:Type}{scope:eb}{xs:List PV}{g:α->PV}{l:List α}{P:List Dt->al->Prop}(ht:(iW C).all (λx=>scope.names.lookup x !=some .free)=true)(a0:(iW j).all (λx=>scope.names.lookup x !=some .free)=true)(hs:∀(e:Env) x,sa D e x=pure x)(h:α->List Z)(g':Z->PV)(f:α->Z->Dt)(J:al->Prop)(e:xs=l.map g)(hz:small (l.flatMap λa=>(h a).map<|f a).length)(X:J O)(step:∀cenv I a ah,cenv.scope=fP scope V->fS scope ρ I->a∈l->J ah->cW c k cenv I C (g a) ah λH m=>fS scope ρ m/\ky c k cenv m D j H (B9 c k cenv m j N J (h a) g'<|f a))(fin:∀ah,J ah->P (l.flatMap λa=>(h a).map<|f a) ah):kG c k V ρ scope (.ListComp N [⟨C,a3,[],0⟩,⟨j,D,[],0⟩] scope a6) C xs O P:=by
 calc kG.mono (QI ht a0 hs (λxs r ah=>jl g l (λd=>r=(d.flatMap λa=>(h a).map<|f a)/\J ah) xs) ⟨[],l,rfl,e,rfl,X⟩ λcenv I z zs r ah hc T q=>jl.step (M:=λz zs=>cW c k cenv I C z ah λH m=>fS scope ρ m/\ky c k cenv m D j H (La c k cenv m j N (λr ah=>jl g l (λd=>r=(d.flatMap λa=>(h a).map<|f a)/\J ah) zs) r)) q λdone a a5 hd X hn=>?_) λr ah h=>h.fin.1▸fin ah h.fin.2;rw[X.1];calc(step cenv I a ah hc T (mid hd) X.2).mono λa7 a1 hh=>⟨hh.1,hh.2.mono λys a8 hk=>?_⟩;cases hk with|mk e hJ st=>
 calc⟨λys r ah=>jl g' (h a) (λY=>r=(done.flatMap λa=>(h a).map<|f a)++Y.map (f a)/\J ah) ys,⟨[],h a,rfl,e,(ea _).symm,hJ⟩,λU y ys r ah hr q=>jl.step (M:=λy ys=>small r.length/\cW c k cenv U j y ah λS L=>(∀z,z∉iW j->L z=a1 z)/\WE c k cenv L N S (vC (λr ah=>jl g' (h a) (λY=>r=(done.flatMap λa=>(h a).map<|f a)++Y.map (f a)/\J ah) ys) r)) q λY b t2 h1 hq a2=>?_,λr ah q=>hn _ ⟨q.fin.1.trans<|by rw[wy,tT,yP,ea],q.fin.2⟩⟩;rw[hq.1];refine⟨?_,(st b (mid h1) U ah hr hq.2).mono λa9 b0 hh=>⟨hh.1,hh.2.mono λp b1 q=>⟨f a b,q.1,a2 _ ⟨?_,q.2⟩⟩⟩⟩
 .rw[hd,wy,tT,h1,bA,bA,au,bA] at hz;rw[bA,au];exact(aV 0x205f431205f44a4531) hz
 .rw[cb,eK];rfl
end
section
variable{prog:eN}{w:bR}
mutual
noncomputable def iI:Dt->Dt->Bool
 | .int a,.int b=>decide<|a<b
 | .str a,.str b=>decide<|a.cps.toList<b.cps.toList
 | .tup a,.tup b=>cV a b
 |_,_=>false
noncomputable def cV:List Dt->List Dt->Bool
 |x::xs,y::ys=>if x=y then cV xs ys else iI x y
 |[],_::_=>true
 |_,[]=>false
end
mutual
noncomputable def oi:Dt->Dt->Prop
 | .int _,.int _=>True
 | .str _,.str _=>True
 | .tup a,.tup b=>pC a b
 |_,_=>False
noncomputable def pC:List Dt->List Dt->Prop
 |x::xs,y::ys=>(x=y->pC xs ys)/\(x≠y->oi x y)
 |_,_=>True
end
theorem kW(x y:Dt)(xs ys:List Dt):cV (x::xs) (y::ys)=if x=y then cV xs ys else iI x y:=rfl
theorem Kx:∀b:List Dt,cV [] b=decide (0<b.length):=λb=>by cases b<;>rfl
theorem QX{n:Int}{y:Dt}(h:oi (.int n) y):∃b,y= .int b:=by cases y<;>first|calc⟨_,rfl⟩|calc h.elim
theorem WF{n:Str}{y:Dt}(h:oi (.str n) y):∃b,y= .str b:=by cases y<;>first|calc⟨_,rfl⟩|calc h.elim
theorem SM{l:List Dt}{y:Dt}(h:oi (.tup l) y):∃b,y= .tup b:=by cases y<;>first|calc⟨_,rfl⟩|calc h.elim
noncomputable def RL(prog:eN)(w:bR)(x:Dt):Prop:=∀(y:Dt) {A:cj} {E:Value->aA->Prop} {s:aA} {u v:Value} {Q:Value->aA->Prop},x.key=true->y.key=true->oi x y->A.units+x.depth+2<dP->be w s.heap.get? x u->be w s.heap.get? y v->Q (.bool<|iI x y) s->ao (aO prog w) A (PU .Lt u v) Q E s
noncomputable def BB(prog:eN)(w:bR)(l:List Dt):Prop:=∀(m:List Dt) (f:Value×Value->Option CI×PUnit->Sem (ForInStep<|Option CI×PUnit)) (_:∀x r,f x r=(do
   let e <-eqBool x.1 x.2
   if(!e)=true then do
    rule "tuple.compare.by-the-first-pair-that-differs";let c <-PU .Lt x.1 x.2;let z <-ret c;pure<|ForInStep.done (some z,CD)
   else pure<|GS (none,CD))) {A:cj} {E:Value->aA->Prop} {s:aA} {us vs:List Value} {Q:Option CI×PUnit->aA->Prop},Dt.keys l=true->Dt.keys m=true->pC l m->A.units+Dt.dG l+2<dP->
  aT w s.heap.get? l us->aT w s.heap.get? m vs->(cV l m=decide (l.length<m.length)->Q (none,CD) s)->(∀r,r.1=some (.done<|.ret<|.bool<|cV l m)->Q r s)->
  ao (aO prog w) A (forIn (us.zip vs) (none,CD) f) Q E s
theorem YG{l:List Dt}(P:BB prog w l):RL prog w (.tup l):=by
 calc λy A E s u v Q S U hc I J hy h=>ai (SM hc) λm e=>?_;subst e;calc vL J λa o items n e C q hd hi=>?_;clear J;subst e;calc vL hy λb L g X e p j D z=>?_;clear hy;subst e;calc wpAny_richCompare_same_room (op:= .Lt) (T:="tuple") ⟨o,C,q⟩ ⟨L,p,j⟩ I0 (eL I0 ⟨o,C,q⟩ PySem.F.entry_tuple_lt ?_<|PySem.F.args_tuple_lt_2 _ _)<|(ax 0x73173404f403f1) I;show ao _ _ (isInstance (.ref b) (.type "tuple")>>=_) _ _ _;refine af<|sc (T:="tuple") (b:=true) ⟨L,p,j⟩ P8<|af<|af<|lx C hd<|ap<|af<|af<|lx p D<|ap<|af<|P m _ (λ_ _=>rfl) S U hc ((dB [A.units,Dt.dG l,dP] 0x75404f43b75404f4c1) I) hi z (λH=>?_) λr H=>?_
 .refine ap ⟨_,aR rfl nofun ?_⟩;show Q (.bool<|decide<|items.size<g.size) s;have h1:=hi.length;have N:=z.length;rw[cu] at h1 N;rw[h1,N,<-H];exact h
 .obtain⟨Y,Z⟩:=r;cases H;calc ap ⟨_,aR rfl nofun h⟩
theorem US{x:Dt}{l:List Dt}(J:RL prog w x)(L:BB prog w l):BB prog w (x::l):=by
 intro m f hf A E s us vs Q h j hc q h1 r z p;cases m with
 |nil=>
  rw[show vs=[] from r,M8];calc ap<|z rfl
 |cons y m=>
  calc mr h1 λu us' e H C=>?_;clear h1;subst e;calc mr r λv N e I D=>?_;clear r;subst e;have h:=iS h;have j:=iS j;rw[tQ,qs,hf];calc af<|af<|th h.1 j.1 ((dB [_,_,_,_,_] 0x7a415f5317a404f419f00f31) q) H I ?_;have e:=kW x y l m;by_cases g:x=y
  .rw[decide_eq_true g];rw[if_pos g] at e;rw[e] at z p;exact ap<|L m f hf h.2 j.2 (hc.1 g) ((aV 0x75404f43175404f419f3a1) q) C D (λhh=>z<|hh.trans<|decide_eq_decide.mpr GJ.symm) p
  .rw[decide_eq_false g];rw[if_neg g] at e;rw[e] at p;calc af<|fq<|af<|J y h.1 j.1 (hc.2 g) ((aV 0x75404f43175404f419fa31) q) H I<|af<|ap<|ap<|ap<|p _ rfl
theorem VH:(∀x,RL prog w x)/\∀l,BB prog w l:=by
 refine Dt.ind (λZ Z Z Z Z Z Z k=>cv k) (λZ Z Z Z Z Z Z Z k=>cv k) ?_ ?_ (λl=>YG) (λZ Z Z Z Z Z Z Z Z k=>cv k) (λZ Z Z Z Z Z Z Z Z Z Z k=>cv k) ?_ λZ Z=>US
 .refine λa y A E s u v Q Z Z hc Z g hy h=>ai (QX hc) λb e=>?_;subst e;calc ai g λt e=>ai hy λp j=>?_;rw[e,j];exact N6 h
 .refine λa y A E s u v Q Z Z hc Z g hy h=>ai (WF hc) λb e=>?_;subst e;calc ai g λt e=>ai hy λp j=>?_;rw[e,j];exact PySem.P.lt_str h
 .intro m f hf A E s us vs Q _ _ _ _ h1 _ q _;rw[show us=[] from h1,N8];calc ap<|q<|Kx m
theorem XV(x y:Dt){A:cj}{E:Value->aA->Prop}{s:aA}{u v:Value}{Q:Value->aA->Prop}:x.key=true->y.key=true->oi x y->A.units+x.depth+2<dP->be w s.heap.get? x u->be w s.heap.get? y v->Q (.bool<|iI x y) s->ao (aO prog w) A (PU .Lt u v) Q E s:=VH.1 x y
end
section
noncomputable def Zz:Bool->Keyed->Array Keyed->Nat->Nat->Nat->StateT SortSt Sem (Option Nat):=sortPriv%PySem.Builtin.gallop
noncomputable def Wu:Array Keyed->Array Keyed->StateT SortSt Sem (Array Keyed):=sortPriv%PySem.Builtin.mergeLo
noncomputable def SX:Array Keyed->Array Keyed->StateT SortSt Sem (Array Keyed):=sortPriv%PySem.Builtin.mergeHi
noncomputable def VM:Nat->StateT SortSt Sem Unit:=sortPriv%PySem.Builtin.setMinGallop
section
variable{M:oh}{A:cj}{s:aA}{κ:uy}{In:ee->Prop}
noncomputable def jZ(M:oh)(A:cj)(s:aA)(κ:uy)(In:ee->Prop):Prop:=∀x y:ee,In x->In y->ao M A (keyLt' κ x.1 y.1) (λZ s'=>s'=s) EF s
structure Ok(κ:uy)(st:bB):Prop where
 kind:kindOf st=κ
 failed:pq st=none
theorem gh{E:Value->aA->Prop}{i:Nat}{st:bB}{Q:ee->bB->Prop}(h:arr[i]? =some p)(q:Q p st):wpS M A E s (elem' arr i) Q st:=by rw[elem'_eq,h];calc bI q
theorem xn(g:jZ M A s κ In){st:bB}{Q:Option Bool->bB->Prop}(h:In x)(hy:In y)(j:Ok κ st)(q:∀b,Q (some b) st):wpS M A EF s (lt' x y) Q st:=by rw[lt'_eq];calc bz<|pz ?_;rw[j.kind];calc bz<|wS<|nZ<|aS (g x y h hy) (λb s' e=>⟨e,bI<|q b⟩) λZ Z x=>x.elim
theorem wa(h:jZ M A s κ In){i j:Nat}{st:bB}{Q:Option Bool->bB->Prop}(hi:i<(arrOf st).size)(hj:j<(arrOf st).size)(g:∀p∈(arrOf st).toList,In p)(l:Ok κ st)(q:∀b,Q (some b) st):wpS M A EF s (ltAt' i j) Q st:=by rw[ltAt'_eq];calc bz<|pz<|bz<|gh (ct hi)<|bz<|gh (ct hj) ?_;calc xn h (g _<|qn _) (g _<|qn _) l q
theorem yD(h:jZ M A s κ In){left:Bool}{arr:Array ee}{j:Nat}{st:bB}{Q:Option Bool->bB->Prop}(hk:In key)(g:∀p∈arr.toList,In p)(hj:j<arr.size)(m:Ok κ st)(q:∀b,Q (some b) st):wpS M A EF s (do let x <-elem' arr j;if left=true then lt' x key else do let r <-lt' key x;pure<|HI (λx=> !x) r) Q st:=by
 calc bz<|gh (ct hj) ?_;have l:=g arr[j]<|qn _;cases left with
 |true=>calc xn h l hk m q
 |false=>calc bz<|xn h hk l m λb=>bI<|q _
theorem Lu(c:l<h):l+(h -l)/2<h:=wK ..▸Nat.add_lt_of_lt_sub (Nat.div_lt_self (R1 c)<|bS 2)
theorem uX(T:jZ M A s κ In){arr:Array ee}{S n L:Nat}{st:bB}{Q:Option Nat->bB->Prop}(hk:In key)(N:∀p∈arr.toList,In p)(hb:S+n<=arr.size)(hh:L<n)(Y:Ok κ st)(q:∀j,j<=n->Q (some j) st):wpS M A EF s (Zz left key arr S n L) Q st:=by
 calc bz<|yD T hk N ((aV 0x75431254a17a3) hb hh) Y λright=>?_;cases right with
 |true=>
  show wpS M A EF s (if true=true then _ else _) Q st;rw[if_pos rfl];refine bz<|ma (nr (I:=λZ c m=>m=st/\c.1=none) (Q:=λc m=>m=st/\c.1=none) ?_ (λZ Z h=>h) ⟨rfl,rfl⟩) ?_
  .intro i z;obtain⟨r,H,P⟩:=z;intro m _ _ g;have C:=g.1;have J:=g.2;clear g;clear q;subst C;subst J;dsimp only;by_cases hc:P>=n -L
   .rw[if_pos hc];exact bI ⟨rfl,rfl⟩
   .rw[if_neg hc]
    calc bz<|yD T hk N ((cK 0x7a445312a400f1700f3d259300f) hb hh hc) Y λb=>?_;cases b with
    |true=>calc bI ⟨rfl,rfl⟩
    |false=>exact bI ⟨rfl,rfl⟩
  .intro z;obtain⟨r,H,P⟩:=z;intro m g;have C:=g.1;have h1:=g.2;clear g;subst C;dsimp only at h1|-;subst h1;dsimp only;refine bz<|ma (nr (I:=λZ c l=>l=m/\c.1=none/\c.2.2<=n) (Q:=λc l=>l=m/\c.1=none/\c.2.2<=n) ?_ (λZ Z h=>h)<|aR rfl rfl<|by dsimp only;calc(ax 0x25415f91531751) hh) ?_
   .intro i z;obtain⟨r,U,hi⟩:=z;intro l _ _ g;calc aN g λC J D=>?_;clear g;clear q;subst C;subst J;dsimp only at D|-;by_cases hc:U>=hi
    .rw[if_pos hc];exact bI<|aR rfl rfl D
    .rw[if_neg hc]
     have X:=fL (Lu<|zc.mp hc) D;calc bz<|yD T hk N (fL (Ou X _) hb) Y λb=>?_;cases b with
     |true=>calc bI<|aR rfl rfl D
     |false=>exact bI<|aR rfl rfl<|lV X
   .intro z;obtain⟨r,U,hi⟩:=z;intro l g;calc aN g λC h1 D=>?_;clear g;clear Y;subst C;dsimp only at h1 D|-;subst h1;calc bI<|q _ D
 |false=>
  show wpS M A EF s (if false=true then _ else _) Q st;rw[if_neg lr];refine bz<|ma (nr (I:=λZ c m=>m=st/\c.1=none) (Q:=λc m=>m=st/\c.1=none) ?_ (λZ Z h=>h) ⟨rfl,rfl⟩) ?_
  .intro i z;obtain⟨r,H,P⟩:=z;intro m _ _ g;have C:=g.1;have J:=g.2;clear g;clear q;subst C;subst J;dsimp only;by_cases hc:P>=L+1
   .rw[if_pos hc];exact bI ⟨rfl,rfl⟩
   .rw[if_neg hc]
    calc bz<|yD T hk N ((cK 0x7a495312a400f1700f3d25c) hb hh hc) Y λb=>?_;cases b with
    |true=>calc bI ⟨rfl,rfl⟩
    |false=>exact bI ⟨rfl,rfl⟩
  .intro z;obtain⟨r,H,P⟩:=z;intro m g;have C:=g.1;have h1:=g.2;clear g;subst C;dsimp only at h1|-;subst h1;dsimp only;refine bz<|ma (nr (I:=λZ c l=>l=m/\c.1=none/\c.2.2<=n) (Q:=λc l=>l=m/\c.1=none/\c.2.2<=n) ?_ (λZ Z h=>h)<|aR rfl rfl<|by dsimp only;calc(ax 630396753) hh) ?_
   .intro i z;obtain⟨r,U,hi⟩:=z;intro l _ _ g;calc aN g λC J D=>?_;clear g;clear q;subst C;subst J;dsimp only at D|-;by_cases hc:U>=hi
    .rw[if_pos hc];exact bI<|aR rfl rfl D
    .rw[if_neg hc]
     have X:=fL (Lu<|zc.mp hc) D;calc bz<|yD T hk N (fL (Ou X _) hb) Y λb=>?_;cases b with
     |true=>calc bI<|aR rfl rfl D
     |false=>exact bI<|aR rfl rfl<|lV X
   .intro z;obtain⟨r,U,hi⟩:=z;intro l g;calc aN g λC h1 D=>?_;clear g;clear Y;subst C;dsimp only at h1 D|-;subst h1;calc bI<|q _ D
structure dg(st st':bB):Prop where
 kind:kindOf st'=kindOf st
 arr:arrOf st'=arrOf st
 pend:de st'=de st
 failed:pq st'=pq st
theorem dg.refl(st:bB):dg st st:=⟨rfl,rfl,rfl,rfl⟩
theorem dg.trans(h:dg a b)(k:dg b c):dg a c:=⟨k.1.trans h.1,k.2.trans h.2,k.3.trans h.3,k.4.trans h.4⟩
theorem dg.ok(h:dg a b)(g:Ok κ a):Ok κ b:=⟨h.1.trans g.1,h.4.trans g.2⟩
theorem vK{E:Value->aA->Prop}{st:bB}{Q:Unit->bB->Prop}(q:∀h,dg st h->Q () h):wpS M A E s (VM g) Q st:=uj<|q _ ⟨rfl,rfl,rfl,rfl⟩
theorem tH{α:Type}{l:List α}{i:Nat}(h:i<l.length):l.take (i+1)=l.take i++[l[i]]:=by rw[OH];simp[h]
theorem KQ{α:Type}{o A B X:List α}(h:o.Perm<|A++B):(o++X).Perm (A++(B++X)):=by rw[<-eK];calc h.append_right X
theorem JP{α:Type}{o A B X:List α}(h:o.Perm<|A++B):(o++X).Perm ((A++X)++B):=by calc(h.append_right X).trans ?_;rw[eK,eK];calc wu A oW
noncomputable def Lo(a b out:Array ee)(ia ib:Nat):Prop:=out.toList.Perm<|a.toList.take ia++b.toList.take ib
theorem Lo.vt{a b out:Array ee}{ia ib:Nat}(h:Lo a b out ia ib)(hb:ib<b.size):Lo a b (out.push b[ib]) ia (ib+1):=by unfold Lo;rw[kH,tH (by simpa using hb)];calc KQ h
theorem Lo.vN{a b out:Array ee}{ia ib:Nat}(h:Lo a b out ia ib)(g:ia<a.size):Lo a b (out.push a[ia]) (ia+1) ib:=by unfold Lo;rw[kH,tH (by simpa using g)];calc JP h
theorem Lo.xS{a b out:Array ee}{ia ib k:Nat}(h:Lo a b out ia ib):Lo a b (out++b.extract ib (ib+k)) ia (ib+k):=by unfold Lo;rw[lq,nW,V1,nU,BN];calc KQ h
theorem Lo.yj{a b out:Array ee}{ia ib k:Nat}(h:Lo a b out ia ib):Lo a b (out++a.extract ia (ia+k)) (ia+k) ib:=by unfold Lo;rw[lq,nW,V1,nU,BN];calc JP h
theorem Lo.fin(h:Lo a b out ia ib)(j:ia<=a.size)(hb:ib<=b.size):(out++a.extract ia++b.extract ib).Perm (a++b):=by have h1:=h.yj (k:=a.size -ia);have g:=h1.xS (k:=b.size -ib);rw[wz j,wz hb] at g;rw[rR,lq (ys:=b)];unfold Lo at g;rwa [nV (by calc bS _),nV (by calc bS _)] at g
theorem Lo.pQ(h:Lo a b out ia ib)(j:ia<=a.size)(hb:ib<=b.size):(out++b.extract ib++a.extract ia).Perm (a++b):=by have h1:=h.xS (k:=b.size -ib);have g:=h1.yj (k:=a.size -ia);rw[wz j,wz hb] at g;rw[rR,lq (ys:=b)];unfold Lo at g;rwa [nV (by calc bS _),nV (by calc bS _)] at g
inductive KO {R γ:Type} (PF:R->Prop) (PO J:γ->Prop) (st:bB):ForInStep (Option R×γ)->bB->Prop
 |yield {g:γ} {st':bB} (h:J g) (k:dg st st'):KO PF PO J st (.yield (none,g)) st'
 |brk {g:γ} {st':bB} (h:PO g) (k:dg st st'):KO PF PO J st (.done (none,g)) st'
 |ret {r:R} {g:γ} {st':bB} (h:PF r) (k:dg st st'):KO PF PO J st (.done (some r,g)) st'
inductive DQ {R γ:Type} (PF:R->Prop) (PO:γ->Prop) (st:bB):Option R×γ->bB->Prop
 |brk {g:γ} {st':bB} (h:PO g) (k:dg st st'):DQ PF PO st (none,g) st'
 |ret {r:R} {g:γ} {st':bB} (h:PF r) (k:dg st st'):DQ PF PO st (some r,g) st'
inductive NL {R γ:Type} (J:γ->Prop) (st:bB):Option R×γ->bB->Prop
 |mk {g:γ} {st':bB} (h:J g) (k:dg st st'):NL J st (none,g) st'
theorem Ft{R m τ:Type}{E:Value->aA->Prop}{p hi:Nat}{f:Nat->Option R×m->StateT bB Sem (ForInStep<|Option R×m)}{K:Option R×m->StateT bB Sem τ}{Q:τ->bB->Prop}{l st:bB}(I:Nat->m->Prop)(PF:R->Prop)(PO:m->Prop){g:m}(h:I p g)(D:dg l st)(step:∀i g j,i<hi->I i g->dg l j->wpS M A E s (f i (none,g)) (KO PF PO (I<|i+1) l) j)(fin:∀g,I (max p hi) g->PO g)(H:∀r g j,PF r->dg l j->wpS M A E s (K (some r,g)) Q j)(J:∀g j,PO g->dg l j->wpS M A E s (K (none,g)) Q j):wpS M A E s (forIn [p:hi] (none,g) f>>=K) Q st:=by
 refine bz<|ma (nr (I:=λi=>NL (I i) l) (Q:=DQ PF PO l) (λi c j Z L q=>?_) (λc j q=>?_) ⟨h,D⟩) λc j q=>?_
 .cases q with|mk z hk=>
  calc ma (step i _ j L z hk) λr C N=>?_;cases N with
  |yield h k=>calc⟨h,k⟩
  |brk h k=>calc .brk h k
  |ret h k=>exact .ret h k
 .cases q with|mk z hk=>exact .brk (fin _ z) hk
 .cases q with
  |brk h k=>calc J _ _ h k
  |ret h k=>calc H _ _ _ h k
theorem IX{R τ α m p q:Type}{E:Value->aA->Prop}{C hi:Nat}{f:Nat->Option R×α×m×p×q->StateT bB Sem (ForInStep<|Option R×α×m×p×q)}{K:Option R×α×m×p×q->StateT bB Sem τ}{Q:τ->bB->Prop}{l st:bB}(I:Nat->α->m->p->q->Prop)(PF:R->Prop)(PO:α->m->p->q->Prop){x:α}{y:m}{z:p}{w:q}(h:I C x y z w)(D:dg l st)(step:∀i x y z w j,i<hi->I i x y z w->dg l j->wpS M A E s (f i (none,x,y,z,w)) (KO PF (λg=>PO g.1 g.2.1 g.2.2.1 g.2.2.2) (λg=>I (i+1) g.1 g.2.1 g.2.2.1 g.2.2.2) l) j)(fin:∀x y z w,I (max C hi) x y z w->PO x y z w)(H:∀r g j,PF r->dg l j->wpS M A E s (K (some r,g)) Q j)(J:∀x y z w j,PO x y z w->dg l j->wpS M A E s (K (none,x,y,z,w)) Q j):wpS M A E s (forIn [C:hi] (none,x,y,z,w) f>>=K) Q st:=Ft (λi g=>I i g.1 g.2.1 g.2.2.1 g.2.2.2) PF (λg=>PO g.1 g.2.1 g.2.2.1 g.2.2.2) h D (λi g=>step i g.1 g.2.1 g.2.2.1 g.2.2.2) (λg=>fin g.1 g.2.1 g.2.2.1 g.2.2.2) H λg=>J g.1 g.2.1 g.2.2.1 g.2.2.2
theorem Ju{R τ α m p q C:Type}{E:Value->aA->Prop}{D hi:Nat}{f:Nat->Option R×α×m×p×q×C->StateT bB Sem (ForInStep<|Option R×α×m×p×q×C)}{K:Option R×α×m×p×q×C->StateT bB Sem τ}{Q:τ->bB->Prop}{l st:bB}(I:Nat->α->m->p->q->C->Prop)(PF:R->Prop)(PO:α->m->p->q->C->Prop){x:α}{y:m}{z:p}{w:q}{u:C}(h:I D x y z w u)(H:dg l st)(step:∀i x y z w u j,i<hi->I i x y z w u->dg l j->wpS M A E s (f i (none,x,y,z,w,u)) (KO PF (λg=>PO g.1 g.2.1 g.2.2.1 g.2.2.2.1 g.2.2.2.2) (λg=>I (i+1) g.1 g.2.1 g.2.2.1 g.2.2.2.1 g.2.2.2.2) l) j)(fin:∀x y z w u,I (max D hi) x y z w u->PO x y z w u)(J:∀r g j,PF r->dg l j->wpS M A E s (K (some r,g)) Q j)(L:∀x y z w u j,PO x y z w u->dg l j->wpS M A E s (K (none,x,y,z,w,u)) Q j):wpS M A E s (forIn [D:hi] (none,x,y,z,w,u) f>>=K) Q st:=Ft (λi g=>I i g.1 g.2.1 g.2.2.1 g.2.2.2.1 g.2.2.2.2) PF (λg=>PO g.1 g.2.1 g.2.2.1 g.2.2.2.1 g.2.2.2.2) h H (λi g=>step i g.1 g.2.1 g.2.2.1 g.2.2.2.1 g.2.2.2.2) (λg=>fin g.1 g.2.1 g.2.2.1 g.2.2.2.1 g.2.2.2.2) J λg=>L g.1 g.2.1 g.2.2.1 g.2.2.2.1 g.2.2.2.2
theorem Ik{R τ α m p q C D:Type}{E:Value->aA->Prop}{H hi:Nat}{f:Nat->Option R×α×m×p×q×C×D->StateT bB Sem (ForInStep<|Option R×α×m×p×q×C×D)}{K:Option R×α×m×p×q×C×D->StateT bB Sem τ}{Q:τ->bB->Prop}{l st:bB}(I:Nat->α->m->p->q->C->D->Prop)(PF:R->Prop)(PO:α->m->p->q->C->D->Prop){x:α}{y:m}{z:p}{w:q}{u:C}{v:D}(h:I H x y z w u v)(J:dg l st)(step:∀i x y z w u v j,i<hi->I i x y z w u v->dg l j->wpS M A E s (f i (none,x,y,z,w,u,v)) (KO PF (λg=>PO g.1 g.2.1 g.2.2.1 g.2.2.2.1 g.2.2.2.2.1 g.2.2.2.2.2) (λg=>I (i+1) g.1 g.2.1 g.2.2.1 g.2.2.2.1 g.2.2.2.2.1 g.2.2.2.2.2) l) j)(fin:∀x y z w u v,I (max H hi) x y z w u v->PO x y z w u v)(L:∀r g j,PF r->dg l j->wpS M A E s (K (some r,g)) Q j)(N:∀x y z w u v j,PO x y z w u v->dg l j->wpS M A E s (K (none,x,y,z,w,u,v)) Q j):wpS M A E s (forIn [H:hi] (none,x,y,z,w,u,v) f>>=K) Q st:=Ft (λi g=>I i g.1 g.2.1 g.2.2.1 g.2.2.2.1 g.2.2.2.2.1 g.2.2.2.2.2) PF (λg=>PO g.1 g.2.1 g.2.2.1 g.2.2.2.1 g.2.2.2.2.1 g.2.2.2.2.2) h J (λi g=>step i g.1 g.2.1 g.2.2.1 g.2.2.2.1 g.2.2.2.2.1 g.2.2.2.2.2) (λg=>fin g.1 g.2.1 g.2.2.1 g.2.2.2.1 g.2.2.2.2.1 g.2.2.2.2.2) L λg=>N g.1 g.2.1 g.2.2.1 g.2.2.2.1 g.2.2.2.2.1 g.2.2.2.2.2
theorem NN{σ h:Type}{E:Value->aA->Prop}{T:σ->StateT bB Sem h}{Q:h->bB->Prop}{st:bB}{m:StateT bB Sem h}(main:(∀x g,dg st g->wpS M A E s (T x) Q g)->wpS M A E s m Q st)(pr:∀x g,dg st g->wpS M A E s (T x) Q g):wpS M A E s m Q st:=main pr
theorem BE{σ τ g:Type}{E:Value->aA->Prop}{T:σ->τ->StateT bB Sem g}{Q:g->bB->Prop}{st:bB}{m:StateT bB Sem g}{I:σ->τ->Prop}(main:(∀x y,I x y->wpS M A E s (T x y) Q st)->wpS M A E s m Q st)(pr:∀x y,I x y->wpS M A E s (T x y) Q st):wpS M A E s m Q st:=main pr
theorem lB{g:Type}{E:Value->aA->Prop}[Decidable c]{m n:StateT bB Sem g}{Q:g->bB->Prop}{st:bB}(h1:c->wpS M A E s m Q st)(j:¬c->wpS M A E s n Q st):wpS M A E s (if c then m else n) Q st:=by
 by_cases h:c
 .rw[if_pos h];exact h1 h
 .rw[if_neg h];calc j h
theorem iR{g:Type}{E:Value->aA->Prop}{x y:Nat}{m n:StateT bB Sem g}{Q:g->bB->Prop}{st:bB}(h1:x=y->wpS M A E s m Q st)(j:¬x=y->wpS M A E s n Q st):wpS M A E s (if(x==y)=true then m else n) Q st:=lB (λh=>h1<|by simpa using h) λh=>j<|by simpa using h
structure uP(a b out:Array ee)(ia ib:Nat)(n:Nat):Prop where
 L:Lo a b out ia ib
 e1:ia+1<a.size
 e2:ib<b.size
 e3:n<=ia+ib
theorem Tc(hM:jZ M A s κ In){a b:Array ee}{st:bB}{Q:Array ee->bB->Prop}(ha:∀p∈a.toList,In p)(hb:∀p∈b.toList,In p)(Y:1<=a.size)(m:1<=b.size)(a9:Ok κ st)(q:∀out a1,out.Perm (a++b)->dg st a1->Q out a1):wpS M A EF s (Wu a b) Q st:=by
 have a5:∀{i:Nat} (h:i<a.size),In a[i]:=λh=>ha _<|qn _;have a6:∀{i:Nat} (h:i<b.size),In b[i]:=λh=>hb _<|qn _;calc bz<|wS<|fq ⟨rfl,bz<|gh (ct m) ?_⟩;have L0:Lo a b #[b[0]] 0 1:=by have:=Lo.vt (a:=a) (b:=b) (out:=#[]) (ia:=0) (ib:=0) (by unfold Lo;simp) m;simpa using this
 dsimp only;refine iR (λc1=>bI<|q _ _ (L0.fin ((aB 2220568) Y)<|(aB 2195992) m)<|dg.refl _) λc1=>iR (λc2=>bI<|q _ _ (L0.pQ ((aB 568726670) c2)<|(aB 2195992) m)<|dg.refl _) λc2=>bz<|pz<|IX (I:=λx out ia ib mg=>uP a b out ia ib<|x+1) (PF:=λr=>r.Perm<|a++b) (PO:=λout ia ib mg=>False) ⟨L0,(aB 0x7148e218d6148e) Y c2,(dB [_,_] 0x718238218d618d6348e) Y m c1 c2,(dL 38331534)⟩ (dg.refl _) ?_ ?_ (λr' g st1 hr K1=>bI<|q _ _ hr K1) λ_ _ _ _ _ h=>h.elim
 .intro x out ia ib mg st1 hx I1 K1;dsimp only;refine Ju (I:=λy out ia ib U X=>uP a b out ia ib<|x+1+y) (PF:=λr=>r.Perm<|a++b) (PO:=λout ia ib U X=>uP a b out ia ib<|x+2) I1 K1 ?_ ?_ (λr' g st hr K=>bI<|.ret hr K) ?_
  .intro y out ia ib U X st2 hy h N;have L2:=h.L;have e1:=h.e1;have e2:=h.e2;have e3:=h.e3;clear h
   dsimp only;calc bz<|gh (ct e2)<|bz<|gh (ct<|xY e1)<|bz<|xn hM (a6 e2) (a5<|xY e1) (N.ok a9) λw=>?_;cases w with
   |true=>
    dsimp only;rw[if_pos rfl];calc bz<|gh (ct e2) ?_;have z:=L2.vt e2;calc iR (λj=>bI<|.ret (z.fin ((aq 2299707) e1)<|(aq 2340411) j) N) λj=>lB (λl=>bI<|.brk ⟨z,e1,(aq 496994735675) e2 j,(aV 0x2403f3404f12ae24534ab) (cO _) e3⟩ N) λl=>bI<|.yield ⟨z,e1,(aq 496994735675) e2 j,(aV 0x240df54cb24a543b) e3⟩ N
   |false=>
    dsimp only;rw[if_neg lr];calc bz<|gh (ct<|xY e1) ?_;have z:=L2.vN<|show ia<a.size from xY e1;exact iR (λj=>bI<|.ret (z.pQ ((aq 599143563) j)<|tn e2) N) λj=>lB (λl=>bI<|.brk ⟨z,(aq 0x7348b73bd6348b) e1 j,e2,(aV 0x245c404f12ae24534ab) (cO _) e3⟩ N) λl=>bI<|.yield ⟨z,(aq 0x7348b73bd6348b) e1 j,e2,(aV 0x24a03f4cb24a543b) e3⟩ N
  .intro out ia ib U X h;have e1:=h.e1;have e2:=h.e2;exact⟨h.L,e1,e2,(cK 0x2453404f121e7400fa17ac700f52453419f400faeb) (cO _) hx e1 e2 h.e3⟩
  .intro out ia ib U X st2 I2 N;dsimp only;refine bz<|wS<|fq ⟨rfl,Ik (I:=λy out ia ib mg U X=>uP a b out ia ib<|x+2) (PF:=λr=>r.Perm<|a++b) (PO:=λout ia ib mg U X=>uP a b out ia ib<|x+2) I2 N ?_ (λ_ _ _ _ _ _ h=>h) (λr' g st hr K=>bI<|.ret hr K) λout ia ib mg U X a7 I3 K3=>bz<|vK λC Z=>bI<|.yield I3<|K3.trans Z⟩
   .intro y out ia ib mg U X a7 hy h K3;have z:=h.L;have f1:=h.e1;have P:=h.e2;have f3:=h.e3;clear h;dsimp only;apply NN (σ:=Nat)
    case main=>
     refine λkey=>lB (λ_=> ?a) λ_=> ?b
     case b=>generalize mg=m0;exact bz<|vK λC Z=>key m0 C Z
     case a=>exact bz<|vK λC Z=>key _ C Z
    intro a8 C Z;have S:=K3.trans Z;calc bz<|gh (ct P)<|bz ?_;calc uX hM (a6 P) ha ((aq 151549843259) f1) ((aq 2033313564) f1) (S.ok a9) λk hk=>?_;dsimp only;apply BE (I:=λout ia=>Lo a b out ia ib/\ia+1<a.size/\x+2<=ia+ib)
    case main=>
     refine λkey=>lB (λck=> ?a2) λck=> ?b2
     case b2=>have J:Lo a b out ia ib/\ia+1<a.size/\x+2<=ia+ib:=aR z f1 f3;generalize out=o0 at J|-;generalize ia=i0 at J|-;exact key o0 i0 J
     have L4:=z.yj (k:=k);exact iR (λj=>bI<|.ret (L4.pQ ((ax 40970067674161) j)<|tn P) S) λj=>iR (λl=>bI<|.ret (L4.fin ((ax 160039326769) l)<|tn P) S) λl=>key _ _<|aR L4 ((ax 0x754843175b29153d6548431d65431) f1 hk j l)<|(aV 0x24a453404f124a3404f175e) f3 ck
    clear z f1 f3;calc λout ia h=>aN h λL4 g4 f4=>bz<|gh (ct P) ?_;have L5:=L4.vt P;calc iR (λl=>bI<|.ret (L5.fin ((aq 2299707) g4)<|(aq 2340411) l) S) λl=>bz<|gh (ct<|BW g4)<|bz ?_;calc uX hM (a5<|BW g4) hb ((aq 151560369969) P) ((aq 0x79c1e713d61c) P l) (S.ok a9) λk1 a0=>?_;dsimp only;have T:ib+1<b.size:=(aq 496994735675) P l;have hf:x+3<=ia+(ib+1):=(ax 0x2403f340cf12453404f1) f4;generalize ib+1=D at L5 T hf a0|-;generalize out.push b[ib]=H at L5|-;apply BE (I:=λout ib=>Lo a b out ia ib/\ib<b.size/\x+3<=ia+ib)
    case main=>
     refine λkey=>lB (λck=> ?a3) λck=> ?b3
     case b3=>have J:Lo a b H ia D/\D<b.size/\x+3<=ia+D:=aR L5 T hf;generalize H=o0 at J|-;generalize D=i0 at J|-;exact key o0 i0 J
     have L6:=L5.xS (k:=k1);exact iR (λj=>bI<|.ret (L6.fin ((aq 2299707) g4)<|(ax 160039326769) j) S) λj=>key _ _<|aR L6 ((ax 0x7543175129153d65431) T a0 j)<|(aV 0x244a5340cf1245340cf17ae) hf ck
    clear L5 T hf a0 H D;calc λout ib h=>aN h λL6 f6 f7=>bz<|gh (ct<|BW g4) ?_;have L7:=L6.vN<|BW g4;calc iR (λd4=>bI<|.ret (L7.pQ ((aq 599143563) d4)<|tn f6) S) λd4=>?_;have I7:uP a b (out.push a[ia]) (ia+1) ib (x+2):=⟨L7,(aq 0x7348b73bd6348b) g4 d4,f6,(ax 0x245c404f1245340cf1) f7⟩;exact lB (λ_=>bI<|.brk I7 S) λ_=>bI<|.yield I7 S
 .intro out ia ib mg h;have L1:=h.L;calc gm _<|(aV 0x7e87103f73a24a54819f431e) h.e1 h.e2 h.e3
end
end
section
section
variable{M:oh}{A:cj}{s:aA}{κ:uy}{In:ee->Prop}
noncomputable def Hi(a b out:Array ee)(na nb:Nat):Prop:=out.toList.Perm<|a.toList.drop na++b.toList.drop nb
theorem dk{α:Type}{l:List α}{i j:Nat}(e:i+1=j)(h:i<l.length):l.drop i=l[i]::l.drop j:=by subst e;calc H5 h
theorem Hi.vN{a b out:Array ee}{na nb i:Nat}(h:Hi a b out na nb)(e:i+1=na)(hi:i<a.size):Hi a b (out.push a[i]) i nb:=by unfold Hi;rw[kH,dk e (by simpa using hi)];calc(oW (l₁:=out.toList)).trans<|yQ _ h
theorem Hi.vt{a b out:Array ee}{na nb i:Nat}(h:Hi a b out na nb)(e:i+1=nb)(hi:i<b.size):Hi a b (out.push b[i]) na i:=by unfold Hi;rw[kH,dk e (by simpa using hi)];calc(oW (l₁:=out.toList)).trans<|(yQ _ h).trans R2.symm
theorem Ar{α:Type}{l:List α}{i j:Nat}(h:j<=i):l.drop j=(l.drop j).take (i -j)++l.drop i:=by have:=(yI (i -j)<|l.drop j).symm;rwa [U4,wz h] at this
theorem Hi.yj{a b out:Array ee}{na nb j:Nat}(h:Hi a b out na nb)(hj:j<=na):Hi a b (out++(a.extract j na).reverse) j nb:=by unfold Hi;rw[lq,On,nW,nU];calc BY ((oW (l₁:=out.toList)).trans<|(GR _).append h)<|BZ<|show(a.toList.drop j).take (na -j)++(a.toList.drop na++b.toList.drop nb)=_ by rw[<-eK,<-Ar hj]
theorem Hi.xS{a b out:Array ee}{na nb j:Nat}(h:Hi a b out na nb)(hj:j<=nb):Hi a b (out++(b.extract j nb).reverse) na j:=by unfold Hi;rw[lq,On,nW,nU];calc BY ((h.append<|GR _).trans ?_)<|BZ (show a.toList.drop na++((b.toList.drop j).take (nb -j)++b.toList.drop nb)=_ by rw[<-Ar hj]);rw[eK];calc wu _ oW
theorem Hi.fin(h:Hi a b out na nb):(a.extract 0 na++b.extract 0 nb++out.reverse).Perm (a++b):=by
 rw[rR];simp only[lq,On,nW,nU,Hr,Nat.sub_zero];calc(wu _<|(GR _).trans h).trans ?_;have e:a.toList++b.toList=(a.toList.take na++a.toList.drop na)++(b.toList.take nb++b.toList.drop nb):=by rw[yI,yI]
 rw[e];simp only[eK];calc wu _ ?_;rw[<-eK,<-eK];calc Gx _ oW
theorem Hi.pQ(h:Hi a b out na nb):(b.extract 0 nb++a.extract 0 na++out.reverse).Perm (a++b):=by calc Array.Perm.trans ?_ h.fin;rw[rR];simp only[lq];calc Gx _ oW
structure vf(a b out:Array ee)(na nb:Nat)(n:Nat):Prop where
 L:Hi a b out na nb
 e1:0<na
 rI:na<=a.size
 e2:1<nb
 rO:nb<=b.size
 e3:n+na+nb<=a.size+b.size
theorem XS(hM:jZ M A s κ In){a b:Array ee}{st:bB}{Q:Array ee->bB->Prop}(ha:∀p∈a.toList,In p)(hb:∀p∈b.toList,In p)(C:1<=a.size)(a0:1<=b.size)(b4:Ok κ st)(q:∀out a1,out.Perm (a++b)->dg st a1->Q out a1):wpS M A EF s (SX a b) Q st:=by
 have a5:∀{i:Nat} (h:i<a.size),In a[i]:=λh=>ha _<|qn _;have a6:∀{i:Nat} (h:i<b.size),In b[i]:=λh=>hb _<|qn _;calc bz<|wS<|fq ⟨rfl,bz<|gh (ct<|show a.size -1<a.size from qI C) ?_⟩;have L0:Hi a b #[a[a.size -1]] (a.size -1) b.size:=by have:=Hi.vN (a:=a) (b:=b) (out:=#[]) (na:=a.size) (nb:=b.size) (i:=a.size -1) (by unfold Hi;simp) ((aB 417829753368) C) (by omega);simpa using this
 dsimp only;refine iR (λc1=>bI<|q _ _ L0.fin<|dg.refl _) λc1=>iR (λc2=>bI<|q _ _ L0.pQ<|dg.refl _) λc2=>bz<|pz<|IX (I:=λx na nb out mg=>vf a b out na nb<|x+1) (PF:=λr=>r.Perm<|a++b) (PO:=λna nb out mg=>False) ⟨L0,(dB [_,_] 0x7981e218238d6e981d683) C a0 c1 c2,(aB 563614232) C,(aB 487513970305) a0 c2,xG,(aq 0x243143498148e218) C⟩ (dg.refl _) ?_ ?_ (λr' g st1 hr K1=>bI<|q _ _ hr K1) λ_ _ _ _ _ h=>h.elim
 .intro x na nb out mg st1 hx I1 K1;dsimp only;refine Ju (I:=λy na nb out ac bc=>vf a b out na nb<|x+1+y) (PF:=λr=>r.Perm<|a++b) (PO:=λna nb out ac bc=>vf a b out na nb<|x+2) I1 K1 ?_ ?_ (λr' g st hr K=>bI<|.ret hr K) ?_
  .intro y na nb out ac bc st2 hy h X;have L2:=h.L;have e1:=h.e1;have rI:=h.rI;have e2:=h.e2;have rO:=h.rO;have e3:=h.e3;clear h
   dsimp only;have l:nb -1<b.size:=(aq 7943566230065) e2 rO;have m:na -1<a.size:=(aq 7943566254641) e1 rI;calc bz<|gh (ct l)<|bz<|gh (ct m)<|bz<|xn hM (a6 l) (a5 m) (X.ok b4) λw=>?_;cases w with
   |true=>
    dsimp only;rw[if_pos rfl];calc bz<|gh (ct m) ?_;have H:=L2.vN (i:=na -1) ((aB 417829754654) e1) m;calc iR (λD=>bI<|.ret H.fin X) λD=>?_;have h1:0<na -1:=(aB 8349933824385) D;have h2:na -1<=a.size:=(aq 152875514241) m;calc lB (λd2=>bI<|.brk ⟨H,h1,h2,e2,rO,(dU 0x2400fa454983404f1207fe73e2400fa4543407fbd6e9837983e) (cO _) e1 e3 D h1⟩ X) λd2=>bI<|.yield ⟨H,h1,h2,e2,rO,(dU 0x2407f00f4a49854cb75e2407f00f4a4543bd6e9857985e) e1 e3 D h1⟩ X
   |false=>
    dsimp only;rw[if_neg lr];calc bz<|gh (ct l) ?_;have H:=L2.vt (i:=nb -1) ((aq 0x614898173e718) e1 e2) l;calc iR (λD=>bI<|.ret H.pQ X) λD=>?_;have h1:1<nb -1:=(aq 0x7981873e718d68981) e1 e2 D;have h2:nb -1<=b.size:=(aq 152875514241) l;exact lB (λd2=>bI<|.brk ⟨H,e1,rI,h1,h2,(dB [_,_,_,_,_,_] 0x2400fa498543404f1207fe73e7582400fa4543407fbd6898579858) (cO _) e1 e2 e3 D h1⟩ X) λd2=>bI<|.yield ⟨H,e1,rI,h1,h2,(dU 0x2407f00f498a454cb75e7a82407f00f4a4543bd6898a798a8) e1 e2 e3 D h1⟩ X
  .intro na nb out ac bc h;exact⟨h.L,h.e1,h.rI,h.e2,h.rO,(cK 0x2400fa4543404f12a8200f82400fa4543419f400faeb) C a0 h.e3⟩
  .intro na nb out ac bc st2 I2 X;dsimp only;refine bz<|wS<|fq ⟨rfl,Ik (I:=λy na nb out mg ac bc=>vf a b out na nb<|x+2) (PF:=λr=>r.Perm<|a++b) (PO:=λna nb out mg ac bc=>vf a b out na nb<|x+2) I2 X ?_ (λ_ _ _ _ _ _ h=>h) (λr' g st hr K=>bI<|.ret hr K) λna nb out mg ac bc a7 I3 K3=>bz<|vK λN K4=>bI<|.yield I3<|K3.trans K4⟩
   .intro y na nb out mg ac bc a7 hy h K3;have H:=h.L;have f1:=h.e1;have Y:=h.rI;have f2:=h.e2;have a8:=h.rO;have f3:=h.e3;clear h;dsimp only;have l:nb -1<b.size:=(aq 7943566230065) f2 a8;apply NN (σ:=Nat)
    case main=>
     refine λkey=>lB (λ_=> ?a) λ_=> ?b
     case b=>generalize mg=m0;exact bz<|vK λN K4=>key m0 N K4
     case a=>exact bz<|vK λN K4=>key _ N K4
    intro a9 N K4;have Z:=K3.trans K4;calc bz<|gh (ct l)<|bz ?_;calc uX hM (a6 l) ha ((aq 591520305) Y) ((aB 1905792798) f1) (Z.ok b4) λj hj=>?_;dsimp only;generalize na -j=ka;apply BE (I:=λout na=>Hi a b out na nb/\(0<na/\na<=a.size)/\x+2+na+nb<=a.size+b.size)
    case main=>
     refine λkey=>lB (λck=> ?a2) λck=> ?b2
     case b2=>have J:Hi a b out na nb/\(0<na/\na<=a.size)/\x+2+na+nb<=a.size+b.size:=aR H ⟨f1,Y⟩ f3;generalize out=o0 at J|-;generalize na=i0 at J|-;exact key o0 i0 J
     have L4:=H.yj (j:=j) hj;exact iR (λD=>bI<|.ret L4.fin Z) λD=>key _ _<|aR L4 ⟨(aB 119461601) D,(ax 9414333009) Y hj⟩<|(dU 0x2400fa4543404f12400fa45407f404f1207f3) f3 hj
    clear H f1 Y f3 hj;intro out na h;have L4:=h.1;have P:=h.2.1;have g1:=P.1;calc bz<|gh (ct l) ?_;have L5:=L4.vt (i:=nb -1) (show nb -1+1=nb from(aB 417829754648) f2) l;calc iR (λd2=>bI<|.ret L5.pQ Z) λd2=>?_;have m:na -1<a.size:=(aq 7943566254641) g1 P.2;calc bz<|gh (ct m)<|bz ?_;calc uX hM (a5 m) hb ((aq 38798618999169) l) ((aq 0x79819898171873ed68981) f2 g1 d2) (Z.ok b4) λj1 S=>?_;dsimp only;have T:1<nb -1/\nb -1<=b.size:=(ax 0xaf23981798187187398175ed68981) f2 l g1 d2;have hf:x+3+na+(nb -1)<=a.size+b.size:=(cK 0x2400fa49854340cf17582400fa4543404f173ed689850af200f98579858) f2 h.2.2 g1 d2 T;generalize out.push b[nb -1]=U at L5|-;generalize nb -1=z at L5 T hf S|-;generalize z -j1=kb;apply BE (I:=λout nb=>Hi a b out na nb/\(1<nb/\nb<=b.size)/\x+3+na+nb<=a.size+b.size)
    case main=>
     refine λkey=>lB (λck=> ?a3) λck=> ?b3
     case b3=>have J:Hi a b U na z/\(1<z/\z<=b.size)/\x+3+na+z<=a.size+b.size:=aR L5 T hf;generalize U=o0 at J|-;generalize z=i0 at J|-;exact key o0 i0 J
     have L6:=L5.xS (j:=j1) S;exact iR (λd3=>bI<|.ret L6.pQ Z) λd3=>iR (λd4=>bI<|.ret L6.fin Z) λd4=>key _ _<|aR L6 ⟨(aB 7803259442913) d3 d4,(ax 0x2310af235758251) T S⟩<|(dU 0x2400fa454340cf12400fa407f4340cf1207f5) hf S
    clear L5 T hf S U z;calc λout nb h=>aN h λL6 P f7=>?_;calc bz<|gh (ct m) ?_;have L7:=L6.vN (i:=na -1) (show na -1+1=na from(aB 417829754654) g1) m;calc iR (λd4=>bI<|.ret L7.fin Z) λd4=>?_;have I7:vf a b (out.push a[na -1]) (na -1) nb (x+2):=⟨L7,(aB 8349933824385) d4,(aq 152875514241) m,P.1,P.2,(cK 0x2400fa454983404f173e2400fa454340cf1d6e983) g1 f7 d4⟩;exact lB (λ_=>bI<|.brk I7 Z) λ_=>bI<|.yield I7 Z
 .intro na nb out mg h;have L1:=h.L;have b0:=h.rI;have b1:=h.rO;calc gm _<|(aV 0x7e875e7a824314a454819f431e) h.e1 h.e2 h.e3
end
end
section
section
variable{M:oh}{A:cj}{s:aA}{κ:uy}{In:ee->Prop}
structure Turn(st st':bB):Prop where
 kind:kindOf st'=kindOf st
 perm:(arrOf st').Perm<|arrOf st
 failed:pq st'=pq st
theorem Turn.refl(st:bB):Turn st st:=⟨rfl,BX _,rfl⟩
theorem Turn.trans(h:Turn a b)(k:Turn b c):Turn a c:=⟨k.1.trans h.1,k.2.trans h.2,k.3.trans h.3⟩
theorem Turn.ok(h:Turn a b)(g:Ok κ a):Ok κ b:=⟨h.1.trans g.1,h.3.trans g.2⟩
theorem Turn.size(h:Turn a b):(arrOf b).size=(arrOf a).size:=h.2.size_eq
theorem Turn.all(h:Turn a b)(g:∀p∈(arrOf a).toList,In p):∀p∈(arrOf b).toList,In p:=λp hp=>g p<|(rR.mp h.2).mem_iff.mp hp
theorem Turn.arr{st:bB}{xs:Array ee}(h:xs.Perm<|arrOf st):Turn st (setArr st xs):=⟨rfl,h,rfl⟩
theorem Au{E:Value->aA->Prop}{st:bB}{Q:Unit->bB->Prop}(q:∀g,Turn st g->de g=de st->Q () g):wpS M A E s (reverseSlice' i j) Q st:=by rw[reverseSlice'_eq];calc uj<|q _ (.arr<|CG _ _ _ _) rfl
theorem Zw{E:Value->aA->Prop}{st:bB}{Q:Unit->bB->Prop}(q:∀g,Turn st g->de g=de st->Q () g):wpS M A E s (moveDown' i j) Q st:=by rw[moveDown'_eq];calc uj<|q _ (.arr<|bubble_perm _ _ _) rfl
theorem Zd(U:jZ M A s κ In){J n ok:Nat}{st:bB}{Q:Bool->bB->Prop}(N:∀p∈(arrOf st).toList,In p)(hz:J+n<=(arrOf st).size)(a0:Ok κ st)(q:∀g,Turn st g->de g=de st->Q true g):wpS M A EF s (binarySort' J n ok) Q st:=by
 refine bz<|ma (nr (I:=λ_ c g=>c=(none,())/\Turn st g/\de g=de st) (Q:=λc g=>c=(none,())/\Turn st g/\de g=de st) ?_ (λ_ _ h=>h)<|aR rfl (Turn.refl _) rfl) ?_
 .intro k c st1 _ hk j;calc aN j λm C L=>?_;clear j;subst m;dsimp only;have H:=C.size;refine bz<|ma (nr (I:=λ_ c g=>c.1=none/\c.2.1<=k/\c.2.2<=k/\g=st1) (Q:=λc g=>c.1=none/\c.2.1<=k/\c.2.2<=k/\g=st1) ?_ (λ_ _ h=>h)<|cx rfl (cO _) (bS _) rfl) ?_
  .intro i j;obtain⟨r,l,T⟩:=j;intro st2 _ _ m;calc bV m λz h1 D P=>?_;clear m;subst z;clear L;subst P;dsimp only at h1 D|-;by_cases hc:l>=T
   .rw[if_pos hc];exact bI<|cx rfl h1 D rfl
   .rw[if_neg hc]
    have S:=fL (half<|zc.mp hc).2 D;have lk:∀{x},x<=k->J+x<(arrOf st2).size:=λh=>H▸fL (Ou (yN h hk) J) hz;calc bz<|wa U (lk<|bS _) (lk<|lV S) (C.all N) (C.ok a0) λb=>?_;cases b with
    |true=>calc bI<|cx rfl h1 (lV S) rfl
    |false=>exact bI<|cx rfl S D rfl
  .intro j;obtain⟨r,l,T⟩:=j;intro st2 m;calc bV m λh0 h1 D z=>?_;clear m;clear H;subst z;dsimp only at h0 h1 D|-;subst h0;dsimp only;exact bz<|Zw λX Y Z=>bI<|aR rfl (C.trans Y)<|Z.trans L
 .intro c st1 j;calc aN j λm C L=>?_;clear j;subst m;calc bI<|q _ C L
theorem MK{h:Type}{E:Value->aA->Prop}{T m:StateT bB Sem h}{Q:h->bB->Prop}{st:bB}(I:bB->Prop)(main:(∀g,I g->wpS M A E s T Q g)->wpS M A E s m Q st)(pr:∀g,I g->wpS M A E s T Q g):wpS M A E s m Q st:=main pr
theorem Wi(X:jZ M A s κ In){lo n:Nat}{st:bB}{Q:Option Nat->bB->Prop}(H:∀p∈(arrOf st).toList,In p)(h1:1<=n)(hz:lo+n<=(arrOf st).size)(a5:Ok κ st)(q:∀m j,1<=m->m<=n->Turn st j->de j=de st->Q (some m) j):wpS M A EF s (countRun' lo n) Q st:=by
 refine bz<|ma (nr (I:=λx c j=>c=(none,x)/\j=st) (Q:=λc j=>c.1=none/\1<=c.2/\c.2<=n/\j=st) ?_ ?_ ⟨rfl,rfl⟩) ?_
 .intro x c st1 P z g;have h:=g.1;have l:=g.2;clear g;subst h;clear q;subst l
  dsimp only;calc bz<|wa X ((aV 0x754317a3254a1) z hz) ((aV 0x75984312387a3254a1) P z hz) H a5 λb=>?_;cases b with
  |true=>calc bI<|cx rfl (by dsimp only;calc(aB 2195992) P) (by dsimp only;calc tn z) rfl
  |false=>exact bI ⟨rfl,rfl⟩
 .intro c st1 g;have h:=g.1;have l:=g.2;clear g;subst h;clear hz a5 q H;subst l;exact cx rfl (by dsimp only;calc(aB 144403104280) h1) (by dsimp only;calc(aB 142169178648) h1) rfl
 .intro g;obtain⟨r,m⟩:=g;intro st1 h;calc bV h λh0 C J l=>?_;clear h;subst l;dsimp only at h0 C J|-;subst h0;dsimp only;by_cases S:(m==n)=true
  .rw[if_pos S];exact bI<|q _ _ C J (Turn.refl _) rfl
  rw[if_neg S];simp only[beq_iff_eq] at S;apply MK (I:=λst2=>Turn st1 st2/\de st2=de st1)
  case main=>
   intro key;by_cases hm:m>1
   .rw[if_pos hm]
    calc bz<|wa X ((aV 0x7312a5234a1758) J hz hm) ((aV 0x75984312a3254a1738) J hz hm) H a5 λb=>?_;cases b with
    |true=>calc bI<|q _ _ C J (Turn.refl _) rfl
    |false=>
     dsimp only;rw[if_neg lr];exact bz<|Au λst2 T2 P2=>key st2 ⟨T2,P2⟩
   .rw[if_neg hm];exact key _ ⟨Turn.refl _,rfl⟩
  case pr=>
   refine λst2 h2=>bz<|wS<|fq ⟨rfl,bz<|ma (nr (I:=λx c j=>c.1=none/\c.2.1=x/\Turn st1 j/\de j=de st1) (Q:=λc j=>c.1=none/\1<=c.2.1/\c.2.1<=n/\Turn st1 j/\de j=de st1) ?_ ?_<|cx rfl rfl h2.1 h2.2) ?_⟩
   .intro x g;obtain⟨r,x',T⟩:=g;intro Y P z h;calc bV h λl L D U=>?_;clear h;subst l
    dsimp only at L|-;subst L;have z3:=D.size;calc bz<|wa X ((cK 0x75431200f4a17a3600f5) hz z z3) ((dU 0x7598431200f4a1207f8234807f7a3600f5) hz C P z z3) (D.all H) (D.ok a5) λb=>?_;cases b with
    |true=>
     dsimp only;rw[if_pos rfl];by_cases Z:T>0
     .rw[if_pos Z];exact bz<|Au λN T4 P4=>bI<|cx rfl rfl (D.trans T4)<|P4.trans U
     .rw[if_neg Z];calc bI<|cx rfl rfl D U
    |false=>
     dsimp only;rw[if_neg lr];calc bz<|wa X ((dU 0x7598431200f4a1207f8234807f7a3600f5) hz C P z z3) ((cK 0x75431200f4a17a3600f5) hz z z3) (D.all H) (D.ok a5) λb=>?_;cases b with
     |true=>calc bI<|km rfl (by dsimp only;calc(aq 8994914844) C P) (by dsimp only;calc tn z) D U
     |false=>exact bI<|cx rfl rfl D U
   .intro g;obtain⟨r,x',T⟩:=g;intro Y h;calc bV h λl L D U=>?_;clear h;subst l;dsimp only at L;exact km rfl (by dsimp only;calc(ax 0x218238258619f303f1) h1 C L) (by dsimp only;calc(ax 0x231235d635619f303f1) J S L) D U
   .intro g;obtain⟨r,m3,T⟩:=g;intro Y h;calc fi h λh0 e1 e2 D U=>?_;dsimp only at h0 e1 e2|-;clear h;subst h0;dsimp only;apply MK (I:=λN=>Turn st1 N/\de N=de st1)
    case main=>
     intro key;by_cases Z:T>0
     .rw[if_pos Z];exact bz<|Au λN a2 a3=>key N ⟨D.trans a2,a3.trans U⟩
     .rw[if_neg Z];exact key _ ⟨D,U⟩
    case pr=>
     intro N h4;have T4:=h4.1;calc bz<|Au λa0 T5 P5=>?_;have T6:=T4.trans T5;have P6:=P5.trans h4.2;have z6:=T6.size;refine bz<|ma (nr (I:=λx c j=>c=(none,x)/\j=a0) (Q:=λc j=>c.1=none/\1<=c.2/\c.2<=n/\j=a0) ?_ ?_ ⟨rfl,rfl⟩) ?_
     .intro x c a1 P z g;have h:=g.1;have l:=g.2;clear g;subst h;clear P6 T5 P5;subst l
      dsimp only;calc bz<|wa X ((cK 0x75431200f4a17a3600f5) hz z z6) ((dU 0x7598431200f4a1207f82307f7a3600f5) hz e1 P z z6) (T6.all H) (T6.ok a5) λb=>?_;cases b with
      |true=>calc bI<|cx rfl (by dsimp only;calc(aq 8994914835) e1 P) (by dsimp only;calc tn z) rfl
      |false=>exact bI ⟨rfl,rfl⟩
     .intro c a1 g;have h:=g.1;have l:=g.2;clear g;subst h;clear P6 T5 z6 P5 T6;subst l;exact cx rfl (by dsimp only;calc(aq 591481826148913) h1 e2) (by dsimp only;calc(aq 150759215665) e2) rfl
     .intro g;obtain⟨r,m6⟩:=g;intro a1 h;calc bV h λh0 g1 g2 l=>?_;clear h;clear T5 z6 P5;subst l;dsimp only at h0 g1 g2|-;subst h0;calc bI<|q _ _ g1 g2 T6 P6
end
end
section
section
variable{M:oh}{A:cj}{s:aA}{κ:uy}{In:ee->Prop}
theorem Yc{E:Value->aA->Prop}{st g:bB}{Q:PUnit->bB->Prop}(q:Q ⟨⟩ g):wpS M A E s (set g:StateT bB Sem PUnit) Q st:=by unfold wpS;rw[StateT.run_set];calc ap ⟨rfl,q⟩
theorem Wv:∀(l:List ee) (k g:Nat) (arr:Array ee),g+k+l.length<=arr.size->((l.zipIdx k).foldl (λa x=>match x with|(p,j)=>a.setIfInBounds (g+j) p) arr).toList=arr.toList.take (g+k)++l++arr.toList.drop (g+k+l.length):=by
 intro q;induction q with
 |nil=>
  intro k g arr h;simp only[OY,List.foldl_nil,Hl,Nat.add_zero,ea];calc(yI ..).symm
 |cons p l r=>
  intro k g arr h;simp only[bP] at h;rw[OO,S9];dsimp only;rw[r (k+1) g _ (by rw[H6];calc(aV 0x2a454c12a403f431) h)];have e:(arr.setIfInBounds (g+k) p).toList=arr.toList.take (g+k)++p::arr.toList.drop (g+k+1):=by rw[Ob,List.set_eq_take_append_cons_drop,if_pos (by rw[cu];calc(aV 0x754312540df431) h)]
  have m:(arr.toList.take<|g+k).length=g+k:=by rw[R4,cu];exact(aV 0x643115f54312540df431) h
  rw[e,<-sg];have t1:(arr.toList.take (g+k)++p::arr.toList.drop (g+k+1)).take (g+k+1)=arr.toList.take (g+k)++[p]:=by rw[List.take_append,m,BN,nV (by calc(ax 40150748251441) m)];rfl
  have t2:(arr.toList.take (g+k)++p::arr.toList.drop (g+k+1)).drop (g+k+1+l.length)=arr.toList.drop (g+k+(l.length+1)):=by rw[List.drop_append,m,List.drop_of_length_le<|by calc(aV 0x24a48453164531) m,S6,show g+k+1+l.length -(g+k)=l.length+1 from(dB [_,_,_] 0x603f94314548431),List.drop_succ_cons,U4];congr 1;exact(dB [_,_,_] 0x6403f4314548431)
  rw[t1,t2,bP];simp
theorem SG{arr m:Array ee}{h g nb:Nat}(h1:h<=g)(q:g+nb<=arr.size)(hm:m.Perm<|arr.extract h g++arr.extract g (g+nb)):(HM (λa x=>match x with|(p,j)=>a.setIfInBounds (h+j) p) arr m.toList.zipIdx).Perm arr:=by
 rw[rR];have hs:m.size=g+nb -h:=by have:=hm.size_eq;rw[N1,BS,BS] at this;exact(cK 0x69a453123a200f453649315f00f4539a15f00f31) h1 q this
 have e:=Wv m.toList 0 h arr (by rw[cu];calc(cK 0x25434e12a125400fa691400fa3) h1 q hs);rw[e,cu,hs];have hm':=rR.mp hm;rw[lq,nW,nW,nU,nU] at hm';have kR:arr.toList=arr.toList.take h++((arr.toList.drop h).take (g -h)++((arr.toList.drop g).take (g+nb -g)++arr.toList.drop (g+nb))):=by rw[<-(Ar (l:=arr.toList)<|show g<=g+nb from(aq 148241)),<-(Ar (l:=arr.toList) h1),yI]
 rw[show h+0+(g+nb -h)=g+nb from(ax 0x64534914534e1231) h1,Nat.add_zero];calc BY ?_<|BZ kR.symm;rw[eK];calc wu _ ?_;rw[<-eK];calc hm'.append_right _
theorem TF(S:jZ M A s κ In){i r na m nb pw X:Nat}{st:bB}{Q:Bool->bB->Prop}(C:∀p∈(arrOf st).toList,In p)(h1:(de st)[i]? =some (r,na,pw))(h2:(de st)[i+1]? =some (m,nb,X))(l:m=r+na)(Y:1<=na)(z:1<=nb)(hz:m+nb<=(arrOf st).size)(a0:Ok κ st)(q:∀g,Turn st g->de g=((de st).setIfInBounds i (r,na+nb,pw)).eraseIdxIfInBounds (i+1)->Q true g):wpS M A EF s (mergeAt' i) Q st:=by
 calc bz<|pz ?_;rw[h1,h2];dsimp only;calc bz<|Yc ?_;have T:Ok κ (yX (kindOf st) (arrOf st) (((de st).setIfInBounds i (r,na+nb,pw)).eraseIdxIfInBounds<|i+1) (gallopOf st)<|pq st):=⟨a0.1,a0.2⟩;calc bz<|gh (ct<|show m<(arrOf st).size from(cK 0x73164a51200f823400f1) l z hz)<|bz ?_;have I:∀{j:Nat} (h:j<(arrOf st).size),In (arrOf st)[j]:=λh=>C _ (by calc qn _);calc uX S (I<|show m<(arrOf st).size from(cK 0x73164a51200f823400f1) l z hz) C (show r+na<=(arrOf st).size from(cK 0x254316431a200f825400fa) l z hz) (show 0<na from(aB 7463448) Y) T λk hk=>?_;dsimp only;by_cases U:(na -k==0)=true
 .rw[if_pos U];exact bI<|q _ ⟨rfl,BX _,rfl⟩ rfl
 rw[if_neg U];simp only[beq_iff_eq] at U;calc bz<|gh (ct<|show r+k+(na -k) -1<(arrOf st).size from(dU 0x7a984935431645100f207f82a407f00f253) l z hz hk)<|bz ?_;calc uX S (I<|show r+k+(na -k) -1<(arrOf st).size from(dU 0x7a984935431645100f207f82a407f00f253) l z hz hk) C (show m+nb<=(arrOf st).size from(ax 160039064625) hz) (show nb -1<nb from qI z) T λD H=>?_;dsimp only;by_cases N:(D==0)=true
 .rw[if_pos N];exact bI<|q _ ⟨rfl,BX _,rfl⟩ rfl
 rw[if_neg N];simp only[beq_iff_eq] at N;have J:∀p∈((arrOf st).extract (r+k) m).toList,In p:=λp hp=>C p (by rw[nW,nU] at hp;calc GH<|Oo hp);have L:∀p∈((arrOf st).extract m<|m+D).toList,In p:=λp hp=>C p (by rw[nW,nU] at hp;calc GH<|Oo hp);have z1:1<=((arrOf st).extract (r+k) m).size:=by rw[BS];exact(oo 0x294a515f3186400f5123407f1200fad6e9a00f207f13fd6e13f) l hz hk U H N
 have z2:1<=((arrOf st).extract m<|m+D).size:=by rw[BS];exact(dU 0x29115f543186400fa125407f1207f3d6e3) l hz H N
 have fin:∀(out:Array ee) (g:bB),out.Perm ((arrOf st).extract (r+k) m++(arrOf st).extract m (m+D))->
   dg (yX (kindOf st) (arrOf st) (((de st).setIfInBounds i (r,na+nb,pw)).eraseIdxIfInBounds<|i+1) (gallopOf st)<|pq st) g->
   Q (pq<|setArr g<|HM (λa x=>match x with|(p,j)=>a.setIfInBounds (r+k+j) p) (arrOf g) out.toList.zipIdx).isNone (setArr g<|HM (λa x=>match x with|(p,j)=>a.setIfInBounds (r+k+j) p) (arrOf g) out.toList.zipIdx):=λout g P K=>by
  show Q (pq g).isNone _
  rw[(K.failed.trans a0.2)]
  refine q _ ⟨K.kind,?_,K.failed⟩ K.pend
  show(HM _ (arrOf g) out.toList.zipIdx).Perm<|arrOf st
  rw[show arrOf g=arrOf st from K.arr]
  exact SG (by calc(aV 655521071846051) l hk) (by calc(dU 0x254316400fa125407f1207f3) l hz H) P
 by_cases Z:na -k<=D
 .rw[if_pos Z];exact bz<|Tc S J L z1 z2 T λout g P K=>bz<|uj<|bz<|pz<|bI<|fin out g P K
 .rw[if_neg Z];calc bz<|XS S J L z1 z2 T λout g P K=>bz<|uj<|bz<|pz<|bI<|fin out g P K
noncomputable def kp:Nat->List (Nat×Nat×Nat)->Nat->Prop
 |a,[],b=>a=b
 |a,x::r,b=>x.1=a/\1<=x.2.1/\kp (a+x.2.1) r b
theorem kp.le:∀{a:Nat},kp a l b->a<=b:=by
 induction l with
 |nil=>calc λh=>fO h
 |cons x r g=>calc λh=>aL (kI _ _)<|g h.2.2
theorem kp.push(g:1<=n):∀{a:Nat},kp a l b->kp a (l++[(b,n,w)]) (b+n):=by
 induction l with
 |nil=>calc λh=>⟨h.symm,g,congrArg (·+n) h⟩
 |cons x r j=>calc λh=>⟨h.1,h.2.1,j h.2.2⟩
theorem kp.pow:∀{i a:Nat},kp a l b->kp a (l.modify i λx=>match x with|(st,len,g)=>(st,len,w)) b:=by
 induction l with
 |nil=>calc λ{i _} h=>by cases i<;>calc h
 |cons x r j=>calc λ{i _} h=>by cases i with|zero=>calc h|succ i=>calc⟨h.1,h.2.1,j h.2.2⟩
theorem kp.at:∀{a b i:Nat} {x y:Nat×Nat×Nat},kp a l b->l[i]? =some x->l[i+1]? =some y->y.1=x.1+x.2.1/\1<=x.2.1/\1<=y.2.1/\y.1+y.2.1<=b/\kp a ((l.set i (x.1,x.2.1+y.2.1,x.2.2)).eraseIdx<|i+1) b:=by
 induction l with
 |nil=>intro a b i x y h e;calc bp e
 |cons p l g=>
  intro a b i x y h e1 e2;cases i with
  |succ i=>calc fi (g h.2.2 e1 e2) λz C D H I=>⟨z,C,D,H,h.1,h.2.1,I⟩
  |zero=>
   have e:p=x:=gn e1;clear e1;subst e;cases l with
   |nil=>calc bp e2
   |cons q r=>
    have e:q=y:=gn e2;clear e2 g;subst e;calc aN h λe h1 h=>aN h λj J m=>?_;clear h;subst e;calc⟨j,h1,J,j▸m.le,rfl,aL h1<|kI _ _,sg ..▸m⟩
theorem Tk(xs:Array α)(i:Nat):(xs.eraseIdxIfInBounds i).toList=xs.toList.eraseIdx i:=by
 unfold Gv;split
 .simp
 .rw[H0];simp;calc(aq 36820755)<|by assumption
structure mM(st₀:bB)(κ:uy)(lo:Nat)(st:bB):Prop where
 turn:Turn st₀ st
 ok:Ok κ st
 xT:kp 0 (de st).toList lo
 le:lo<=(arrOf st).size
theorem mM.merge(z:jZ M A s κ In){g st:bB}{r i:Nat}{Q:Bool->bB->Prop}(l:∀p∈(arrOf g).toList,In p)(m:mM g κ r st)(hi:i+1<(de st).size)(q:∀h,mM g κ r h->Q true h):wpS M A EF s (mergeAt' i) Q st:=by have h1:(de st)[i]? =some (de st)[i]:=ct (by calc xY hi);have C:(de st)[i+1]? =some (de st)[i+1]:=ct hi;calc ai (⟨_,h1⟩:∃x,(de st)[i]? =some x) λj e1=>?_;obtain⟨S,na,pw⟩:=j;calc ai (⟨_,C⟩:∃x,(de st)[i+1]? =some x) λj e2=>?_;obtain⟨U,nb,D⟩:=j;calc fi (m.xT.at (i:=i) (by rw[fj];calc e1) (by rw[fj];calc e2)) λH I J L N=>?_;calc TF z (m.turn.all l) e1 e2 H I J (aL L m.le) m.ok λh T P=>q h ⟨m.turn.trans T,T.ok m.ok,?_,by rw[T.size];calc m.le⟩;rw[P,Tk,Ob];calc N
theorem Sw[Decidable c](h:¬n<=1):(if c then n -2 -1 else n -2)+1<n:=by
 have h:=Nat.lt_of_not_le h;split
 .exact(aB 0x714898904f1718) h
 .exact(aB 0x7148904f1718) h
theorem ZP{σ h:Type}{E:Value->aA->Prop}{T:σ->StateT bB Sem h}{m:StateT bB Sem h}{Q:h->bB->Prop}{st:bB}(I:σ->bB->Prop)(main:(∀x g,I x g->wpS M A E s (T x) Q g)->wpS M A E s m Q st)(pr:∀x g,I x g->wpS M A E s (T x) Q g):wpS M A E s m Q st:=main pr
theorem A0(hM:jZ M A s κ In){st:bB}{Q:Unit->bB->Prop}(X:∀p∈(arrOf st).toList,In p)(hp:de st=#[])(a2:Ok κ st)(q:∀l,Turn st l->Q () l):wpS M A EF s sortRuns' Q st:=by
 calc bz<|pz ?_;dsimp only;refine bz<|ma (nr (I:=λ_ c l=>c.1=none/\mM st κ c.2 l) (Q:=λc l=>c.1=none/\mM st κ c.2 l) ?_ (λ_ _ h=>h) ⟨rfl,Turn.refl _,a2,by rw[hp];rfl,cO _⟩) ?_
 .intro x g;obtain⟨r,z⟩:=g;intro st1 _ _ j;have a0:=j.1;have N:=j.2;clear j;subst a0;dsimp only at N|-;by_cases U:z>=(arrOf st).size
  .rw[if_pos U];exact bI ⟨rfl,N⟩
  rw[if_neg U];calc bz<|Wi hM (N.turn.all X) (show 1<=(arrOf st).size -z from(aq 11057812017) U) (show z+((arrOf st).size -z)<=(arrOf st1).size from(ax 0x2549131635d213) N.turn.size U) N.ok λn st2 D Y T2 P2=>?_;have H:mM st κ z st2:=⟨N.turn.trans T2,T2.ok N.ok,by rw[P2];calc N.xT,by rw[T2.size];calc N.le⟩;dsimp only;have w1:z+((arrOf st).size -z)<=(arrOf st).size:=by exact(aq 2424797516307) U
  apply ZP (σ:=Nat) (I:=λn L=>1<=n/\z+n<=(arrOf st).size/\mM st κ z L)
  case main=>
   intro key;split;rotate_left
   .have J:=PX D Y;generalize n=n0 at J|-;exact key n0 _<|aR J.1 (aL (oY J.2 z) w1) H
   .rename_i c2;have Z:=λr=>aL (oY (U1 ((arrOf st).size -z) r) z) w1;calc bz<|wS<|fq ⟨rfl,bz<|Zd hM (H.turn.all X) (aL (Z _)<|fO H.turn.size.symm) H.ok λL T3 P3=>?_⟩;have S:mM st κ z L:=⟨H.turn.trans T3,T3.ok H.ok,by rw[P3];calc H.xT,by rw[T3.size];calc H.le⟩;exact key _ _<|aR (Nat.le_min.mpr ⟨(show 1<=(arrOf st).size -z from(aq 11057812017) U),lV<|yN D c2⟩) (Z _) S
  case pr=>
   clear D Y;intro n L h3;have D:=h3.1;have Z:=h3.2.1;have S:=h3.2.2;calc bz<|pz ?_;cases(de L).back? with
   |some x=>
    refine bz<|ma (nr (I:=λ_ c l=>c=(none,())/\mM st κ z l) (Q:=λc l=>c=(none,())/\mM st κ z l) ?_ (λ_ _ h=>h) ⟨rfl,S⟩) ?_
    .intro y c C _ _ g;have j:=g.1;have T:=g.2;clear g;subst j;calc bz<|pz ?_;by_cases c3:(de C).size>1
     .rw[if_pos c3]
      cases(de C)[(de C).size -2]? with
      |some y=>
       refine tL (P:=λm=>wpS M A EF s m _ C) (λ_=>?_) λ_=>?_
       .exact bI ⟨rfl,T⟩
       .exact bz<|T.merge hM X (show(de C).size -2+1<(de C).size from(aB 0x7148904f1718) c3) λa1 m5=>bI ⟨rfl,m5⟩
      |none=>exact bI ⟨rfl,T⟩
     .rw[if_neg c3];exact bI ⟨rfl,T⟩
    .intro c C g;have j:=g.1;have T:=g.2;clear g;subst j;refine bz<|uj<|bz<|uj<|bI ⟨rfl,⟨T.turn.kind,T.turn.perm,T.turn.failed⟩,⟨T.ok.kind,T.ok.failed⟩,?_,aL Z<|fO T.turn.size.symm⟩
     .show kp 0 (Array.push _ _).toList _;rw[kH,GN];calc .push D T.xT.pow
   |none=>
    refine bz<|uj<|bI ⟨rfl,⟨S.turn.kind,S.turn.perm,S.turn.failed⟩,⟨S.ok.kind,S.ok.failed⟩,?_,aL Z<|fO S.turn.size.symm⟩
    .show kp 0 (Array.push _ _).toList _;rw[kH];exact .push D S.xT
 .intro g;obtain⟨r,z⟩:=g;intro st1 j;have h0:=j.1;have N:=j.2;dsimp only at h0 N|-;clear j;subst h0;refine bz<|ma (nr (I:=λ_ c l=>c=(none,())/\mM st κ z l) (Q:=λc l=>c=(none,())/\mM st κ z l) ?_ (λ_ _ h=>h) ⟨rfl,N⟩) ?_
  .intro x c st2 _ _ g;have j:=g.1;have H:=g.2;clear g;subst j;calc bz<|pz ?_;by_cases U:(de st2).size<=1
   .rw[if_pos U];exact bI ⟨rfl,H⟩
   rw[if_neg U];exact bz<|H.merge hM X (Sw U) λL S=>bI ⟨rfl,S⟩
  .intro c st2 g;have j:=g.1;have H:=g.2;clear g;subst j;calc bI<|q _ H.turn
end
end
section
structure Wk(f:Nat->Nat->Bool):Prop where
 tr:∀a b c,f b a=false->f c b=false->f c a=false
 as:∀a b,f a b=true->f b a=false
theorem Wk.fX(W:Wk f)(a:Nat):f a a=false:=by
 cases h:f a a with
 |false=>rfl
 |true=>have:=W.as a a h;rw[h] at this;calc vj this
noncomputable def Pm(p:Array Nat)(n:Nat):Prop:=p.toList.Perm<|cS n
theorem Pm.size(h:Pm p n):p.size=n:=by have:=h.length_eq;rwa [cu,lS] at this
theorem Pm.lt(h:Pm p n)(hi:i<n):p.getD i 0<n:=by
 have hz:=h.size;have e:p.getD i 0=p[i]'(hz▸hi):=by unfold pi;rw[dif_pos (hz▸hi)];rfl
 rw[e];calc eM.mp<|h.mem_iff.mp<|by calc qn _
theorem Pm.perm(h:Pm p n)(k:q.Perm p):Pm q n:=(rR.mp k).trans h
theorem AL(p:Array Nat)(i:Nat):p.getD i 0=(p[i]?).getD 0:=by
 unfold pi;split
 .rename_i h;rw[ct h];rfl
 .rename_i h;rw[qo (lX.mp h)];rfl
theorem yv(hj:j<=p.size)(k:Nat):(nw p i j).getD k 0=if i<=k/\k<j then p.getD (i+j -1 -k) 0 else p.getD k 0:=by rw[AL,AL,AL];unfold nw;rw[getElem?_mirror_all hj];split<;>rfl
theorem Wn(hs:g<p.size)(hd:d<=g)(k:Nat):(bubble p g d).getD k 0=if k=g -d then p.getD g 0 else if g -d<k/\k<=g then p.getD (k -1) 0 else p.getD k 0:=by
 simp only[AL];rw[getElem?_bubble hs d hd];split
 .rfl
 .split<;>rfl
noncomputable def Up(f:Nat->Nat->Bool)(p:Array Nat)(m:Nat):Prop:=∀a b,a<=b->b<m->f (p.getD b 0) (p.getD a 0)=false
noncomputable def Dn(f:Nat->Nat->Bool)(p:Array Nat)(m:Nat):Prop:=∀a b,a<=b->b<m->f (p.getD a 0) (p.getD b 0)=false
section
variable{f:Nat->Nat->Bool}{n:Nat}{s:aA}{cmp:Nat->Nat->(Bool->aA->Prop)->aA->Prop}
variable(W:Wk f)(hc:∀i j C,i<n->j<n->C (f i j) s->cmp i j C s)
include W hc
theorem Jn(hp:Pm p n):∀(l m:Nat),1<=m->m+l<=n->Up f p m->(∀m',m<=m'->m'<=m+l->Up f p m'->(m'=m+l\/f (p.getD m' 0) (p.getD (m' -1) 0)=true)->Q m' s)->(kas_asc p l m).kasWp cmp Q s:=by
 intro C;induction C with
 |zero=>
  calc λm h1 z r q=>q m (bS _) (bS _) r<|.inl rfl
 |succ l H=>
  intro m h1 z r q;show cmp _ _ (λc s'=>(if c=true then CN m else kas_asc p l<|m+1).kasWp cmp Q s') s;calc hc _ _ _ (hp.lt<|by calc(ax 494226637809) z) (hp.lt<|by calc(ax 0x7398121823403f1) h1 z) ?_;cases h:f (p.getD m 0) (p.getD (m -1) 0) with
  |true=>calc q m (bS _) (by calc(aq 150545)) r<|.inr h
  |false=>
   calc H (m+1) (by calc xh h1) (by calc(ax 160049550529) z) (λa b g hb=>?_) λm' I J L N=>q m' (by calc(aq 2298427) I) (by calc(ax 39599381562817) J) L<|N.imp (λe=>by calc(ax 0x6403f31645c1) e) id;by_cases j:b<m
   .exact r a b g j
   .have:b=m:=by exact(aq 425600341809) hb j
    subst this;by_cases D:a=b
    .clear z g q r hb h h1 j;subst D;exact W.fX _
    .exact W.tr _ _ _ (r a (b -1) (by calc(aq 0x29831231238d631) g h1 D)<|by calc qI h1) h
theorem UA:∀(N:Nat) (p:Array Nat) (m q:Nat),Pm p n->1<=m->m+N<=n->Dn f p m->q+1<=m->(∀a,m -(q+1)<=a->a<m->f (p.getD (m -1) 0) (p.getD a 0)=false)->(∀D m' T,Pm D n->1<=m'->m'<=n->Dn f D m'->T+1<=m'->(∀a,m' -(T+1)<=a->a<m'->f (D.getD (m' -1) 0) (D.getD a 0)=false)->Q (D,m',T) s)->(CT N p m q).kasWp cmp Q s:=by
 intro U;induction U with
 |zero=>
  calc λp m q hp h1 r hd C he k=>k p m q hp h1 (by calc(aq 588395745) r) hd C he
 |succ N X=>
  intro p m q hp h1 r hd C he k;show cmp _ _ (λc s'=>(if c=true then(if q>0 then CT N (nw p (m -(q+1)) m) (m+1) 0 else CT N p (m+1) 0) else .ask (p.getD (m -1) 0) (p.getD m 0) λd=>if d=true then .ret (p,m,q) else CT N p (m+1)<|q+1).kasWp cmp Q s') s;calc hc _ _ _ (hp.lt<|by calc(ax 494226637809) r) (hp.lt<|by calc(ax 0x7398121823403f1) h1 r) ?_;have hz:=hp.size;cases h:f (p.getD m 0) (p.getD (m -1) 0) with
  |true=>
   have ext:∀D:Array Nat,Dn f D m->D.getD m 0=p.getD m 0->f (D.getD (m -1) 0) (D.getD m 0)=false->Dn f D (m+1):=λD P e1 e2 a b g hb=>by
    by_cases z:b<m
    .exact P a b g z
    .have:b=m:=by exact(aq 425600341809) hb z
     subst this;by_cases l:a=b
     .clear r g e1 C P he hd hb h h1 z e2;subst l;exact W.fX _
     .exact W.tr _ _ _ e2<|P a (b -1) (by calc(aq 0x29831231238d631) g h1 l)<|by exact qI h1
   have I:=W.as _ _ h;by_cases H:q>0
   .rw[if_pos H];have j:∀a,(nw p (m -(q+1)) m).getD a 0=if m -(q+1)<=a/\a<m then p.getD (m -(q+1)+m -1 -a) 0 else p.getD a 0:=yv (by calc(aV 617007489685155) r hz);have eqv:∀a b,m -(q+1)<=a->a<m->m -(q+1)<=b->b<m->f (p.getD a 0) (p.getD b 0)=false:=λa b Z a2 Y b2=>W.tr _ _ _ (he b Y b2)<|hd a (m -1) (by calc(aq 2852682696497) h1 a2) (by calc qI h1);refine X _ (m+1) 0 (hp.perm<|CG _ _ _ _) (by calc xh h1) (by calc(aV 655562958968410) r hz) (ext _ (λa b g hb=>?_) ?_ ?_) (by calc(aB 726196760) h1) (λa L J=>?_) k
    .rw[j,j];by_cases l:m -(q+1)<=a
     .rw[if_pos ⟨l,by calc(ax 30889285429) g hb⟩,if_pos ⟨by calc(aV 661636048398785) g l,hb⟩];exact eqv _ _ (by calc(aV 0x29598419c19c12a571a) g hb) (by calc(aV 0x719598419c12a571a259c1) g hb l) (by calc(ax 0x29598419c19c1715) hb)<|by exact(aV 0x719598419c125a7152a9c1) g hb l
     .rw[if_neg (by calc(ax 0xd0af715259c1d259c1) l)];by_cases S:m -(q+1)<=b
      .rw[if_pos ⟨S,hb⟩];exact hd _ _ (by calc(aV 0x29a9843903f3173ad21903f3) hb l)<|by exact(aV 0x719598419c1715d2a9c1259c1) hb l S
      .rw[if_neg (by calc(ax 0xd0af715259c1d259c1) S)];exact hd _ _ g hb
    .rw[j,if_neg (by calc(aq 0xd0af711219c1))]
    .rw[j,j,if_pos<|by calc(aq 0xaf7198129819c121821c73e) h1 C H,if_neg (by calc(aq 0xd0af711219c1))];exact W.tr _ _ _ I<|eqv _ _ (by calc(aq 0x2998198419c19c1218) h1) (by calc(aq 0x71998198419c121821c73e) h1 C H) (by calc(aq 0x29819c121821c73e) h1 C H)<|by exact qI h1
    .have:a=m:=by exact(aq 0x63123821948ec7c1) h1 L J
     clear ext r C eqv j he J L I hd h h1;subst this;exact W.fX _
   .rw[if_neg H]
    calc X p (m+1) 0 hp (by calc xh h1) (by calc(aV 655562958968410) r hz) (ext p hd rfl I) (by calc(aB 726196760) h1) (λa L J=>?_) k;have:a=m:=by exact(aq 0x63123821948ec7c1) h1 L J
    clear ext r C he J L I hd h h1;subst this;calc W.fX _
  |false=>
   show cmp _ _ (λd s'=>(if d=true then CN (p,m,q) else CT N p (m+1)<|q+1).kasWp cmp Q s') s;calc hc _ _ _ (hp.lt<|by calc(aV 0x7398121823403f163a) h1 r hz) (hp.lt<|by calc(aV 0x73123403f163a) r hz) ?_;cases h':f (p.getD (m -1) 0) (p.getD m 0) with
   |true=>calc k p m q hp h1 (by calc(aV 616977424913978) r hz) hd C he
   |false=>
    refine X p (m+1) (q+1) hp (by calc xh h1) (by calc(aV 655562958968410) r hz) (λa b g hb=>?_) (by calc(aq 742961723) C) (λa L J=>?_) k
    .by_cases z:b<m
     .exact hd a b g z
     .have:b=m:=by exact(aq 425600341809) hb z
      subst this;by_cases l:a=b
      .clear r g C he hd hb h' h h1 z;subst l;exact W.fX _
      .exact W.tr _ _ _ h'<|hd a (b -1) (by calc(aq 0x29831231238d631) g h1 l)<|by exact qI h1
    .show f (p.getD m 0) (p.getD a 0)=false;by_cases l:a=m
     .clear r C he J L hd h' h h1;subst l;exact W.fX _
     .exact W.tr _ _ _ (he a (by calc(ax 0x259c121c25948cb7b5d615) C L J l)<|by calc yw J l) h
theorem Mr(hp:Pm p n)(h1:1<=m)(j:m<=n)(hd:Dn f p m)(q:∀m' l,Pm l n->1<=m'->m'<=n->Up f l m'->Q (m',l) s):(kas_tail3 m n p).kasWp cmp Q s:=by rw[Cc];have hz:=hp.size;have h:Pm (nw p 0 m) n:=hp.perm<|CG _ _ _ _;calc Jn W hc h (n -m) m h1 (by calc(ax 620748152706613) j hz) (λa b g hb=>?_) λm' r z C Z=>q m' _ h (by calc(aq 8994914835) h1 r) (by calc(aV 0x23123563a2495351) j hz z) C;rw[yv (by calc(ax 9414448723) j hz),yv<|by calc(ax 9414448723) j hz,if_pos<|by calc(aq 0xaf73121e731) hb,if_pos (by calc(ax 0xaf73121e251735) g hb)];calc hd _ _ (by calc(ax 0x2959841e939841e235713) g hb)<|by calc(ax 0x71939841e253715) g hb
theorem Js(hp:Pm p n)(h1:1<=m)(L:m+1<=n)(hd:Dn f p<|m+1)(q:∀m' h,Pm h n->1<=m'->m'<=n->Up f h m'->Q (m',h) s):(HL m n p).kasWp cmp Q s:=by
 rw[Cc];refine UA W hc (n -(m+1)) p (m+1) 0 hp (by calc xh h1) (by calc(aq 151560368699) L) hd (by calc(aB 726196760) h1) (λa z I=>?_) λh m' j C z I l N he=>?_
 .have:a=m:=by exact(aq 0x63123821948ec7c1) h1 z I
  clear L I z hd h1;subst this;exact W.fX _
 .dsimp only;by_cases J:j>0
  .rw[if_pos J];calc Mr W hc (C.perm<|CG _ _ _ _) z I (λa b g hb=>?_) q;have r:∀a,(nw h (m' -(j+1)) m').getD a 0=if m' -(j+1)<=a/\a<m' then h.getD (m' -(j+1)+m' -1 -a) 0 else h.getD a 0:=yv (by calc(ax 9414448723) I C.size);have eqv:∀a b,m' -(j+1)<=a->a<m'->m' -(j+1)<=b->b<m'->f (h.getD a 0) (h.getD b 0)=false:=λa b S a2 P b2=>W.tr _ _ _ (he b P b2)<|l a (m' -1) (by calc(aq 2852682696497) z a2) (by calc qI z);show f ((nw h (m' -(j+1)) m').getD a 0) ((nw h (m' -(j+1)) m').getD b 0)=false;rw[r,r];by_cases D:m' -(j+1)<=a
   .rw[if_pos ⟨D,by calc(ax 30889285429) g hb⟩,if_pos ⟨by calc(aV 661636048398785) g D,hb⟩];exact eqv _ _ (by calc(aV 0x29598419c19c12a571a) g hb) (by calc(aV 0x719598419c12a571a259c1) g hb D) (by calc(ax 0x29598419c19c1715) hb)<|by exact(aV 0x719598419c125a7152a9c1) g hb D
   .rw[if_neg (by calc(ax 0xd0af715259c1d259c1) D)];by_cases H:m' -(j+1)<=b
    .rw[if_pos ⟨H,hb⟩];exact l _ _ (by calc(aV 0x29a9843903f3173ad21903f3) hb D)<|by exact(aV 0x719598419c1715d2a9c1259c1) hb D H
    .rw[if_neg (by calc(ax 0xd0af715259c1d259c1) H)];exact l _ _ g hb
  .rw[if_neg J];calc Mr W hc C z I l q
theorem UO(hp:Pm p n)(h1:1<=n)(q:∀m' J,Pm J n->1<=m'->m'<=n->Up f J m'->Q (m',J) s):(kas_count n p).kasWp cmp Q s:=by
 rw[Cc];have hz:=hp.size;refine Jn W hc hp (n -1) 1 (bS _) (by calc(aq 585593425856019) h1 hz) (λa b g hb=>?_) λm H C I L=>?_
 .have r:a=0:=by exact(aq 29546977155) g hb
  have j:b=0:=by exact(aB 7214977) hb
  subst r;clear g hb;subst j;exact W.fX _
 .show(if(m==n)=true then CN (m,p) else if m>1 then KasT.ask (p.getD 0 0) (p.getD (m -1) 0) λc=>if c=true then CN (m,p) else HL m n (nw p 0 m) else HL m n p).kasWp cmp Q s;by_cases e1:(m==n)=true
  .rw[if_pos e1];exact q m p hp H (by calc(ax 0x2312386352498381) h1 hz C) I
  rw[if_neg e1];simp only[beq_iff_eq] at e1;have l:f (p.getD m 0) (p.getD (m -1) 0)=true:=L.resolve_left (by calc(ax 0xd6498381238635d631) h1 hz e1);have D:=W.as _ _ l;by_cases e2:m>1
  .rw[if_pos e2]
   show cmp _ _ (λc s'=>(if c=true then CN (m,p) else HL m n<|nw p 0 m).kasWp cmp Q s') s;calc hc _ _ _ (hp.lt<|by calc(aq 30570284563) h1 hz) (hp.lt<|by calc(dB [_,_,_] 0x739812386352498381d631718) h1 hz C e1 e2) ?_;cases h:f (p.getD 0 0) (p.getD (m -1) 0) with
   |true=>calc q m p hp H (by calc(ax 0x2312386352498381d631) h1 hz C e1) I
   |false=>
    have z:∀a,(nw p 0 m).getD a 0=if 0<=a/\a<m then p.getD (0+m -1 -a) 0 else p.getD a 0:=yv<|by exact(ax 0x2312586532498581d651) h1 hz C e1
    have eqv:∀a b,a<m->b<m->f (p.getD a 0) (p.getD b 0)=false:=λa b r hb=>
     W.tr _ _ _ (W.tr _ _ _ (I b (m -1) (by calc(aq 2852687939377) e2 hb)<|by calc(aB 1905792792) e2) h) (I 0 a (by calc(aB 542)) r)
    calc Js W hc (hp.perm<|CG _ _ _ _) H (by calc(ax 0x23b2386352498381d631) h1 hz C e1) (λa b g hb=>?_) q;show f ((nw p 0 m).getD a 0) ((nw p 0 m).getD b 0)=false;rw[z,z];by_cases j:b<m
    .rw[if_pos (by calc(ax 0xaf73121e251735) g j),if_pos (by calc(aq 0xaf73121e731) j)];exact eqv _ _ (by calc(ax 0x71939841e253715) g j)<|by exact(ax 0x71939841e235713) g j
    .have:b=m:=by exact(aq 425600341809) hb j
     subst this;rw[if_neg (c:=0<=b/\b<b) (by calc(aB 896296620574))];by_cases r:a<b
     .rw[if_pos (by calc(aq 0xaf73121e731) r)];exact W.tr _ _ _ D<|eqv _ _ (by calc(aq 0x71939841e713) r)<|by exact(aB 1905792792) e2
     .have:a=b:=by exact(aq 425507018545) g r
      clear l j e1 eqv C r I g L z H D h hb e2;subst this;rw[if_neg (by calc(aB 896296620574))];exact W.fX _
  .rw[if_neg e2]
   have hm:m=1:=by exact(aB 446980216600) H e2
   clear I L l C H e2;subst hm;calc Js W hc hp (bS _) (by calc(aq 0x21488218613d618) h1 hz e1) (λa b g hb=>?_) q;by_cases r:a=b
   .clear g hb;subst r;exact W.fX _
   .have N:a=0:=by exact(aq 0x6e123174883d631) g hb r
    have P:b=1:=by exact(aq 0x68174881d6136e3) hb r N
    subst N;clear r g hb;subst P;calc D
theorem Yo(hp:Pm p n)(hk:k<n)(N:Up f p k):∀(z l r:Nat),l<=r->r<=k->r -l<=z->(∀a,a<l->f (p.getD k 0) (p.getD a 0)=false)->(∀a,r<=a->a<k->f (p.getD k 0) (p.getD a 0)=true)->(∀C,C<=k->(∀a,a<C->f (p.getD k 0) (p.getD a 0)=false)->(∀a,C<=a->a<k->f (p.getD k 0) (p.getD a 0)=true)->Q C s)->(CQ p k z l r).kasWp cmp Q s:=by
 intro I;induction I with
 |zero=>
  intro l r h1 g j D H q;have:l=r:=by exact(aq 6808111606035) h1 j
  clear j h1;subst this;calc q l g D H
 |succ z P=>
  intro l r h1 g j D H q;unfold CQ;by_cases c:l>=r
  .rw[if_pos c]
   have:l=r:=by exact(aq 26594185747) h1 c
   clear j c h1;subst this;exact q l g D H
  .rw[if_neg c]
   have J:=(half<|zc.mp c).1;have m:=(half<|zc.mp c).2;show cmp _ _ (λc s'=>(if c=true then CQ p k z l ((l+r)/2) else CQ p k z ((l+r)/2+1) r).kasWp cmp Q s') s;calc hc _ _ _ (hp.lt hk) (hp.lt<|HB (fL m g) hk) ?_;cases h:f (p.getD k 0) (p.getD ((l+r)/2) 0) with
   |true=>
    calc P l ((l+r)/2) J (aL (lV m) g) (ng<|fL (M2 J m) j) D (λa L S=>?_) q;cases h':f (p.getD k 0) (p.getD a 0) with
    |true=>rfl
    |false=>
     have:=W.tr _ _ _ (N ((l+r)/2) a L S) h';rw[h] at this;calc vj this
   |false=>
    calc P ((l+r)/2+1) r m g (by calc(aV 0x2a903f320df913251735) j J m) (λa L=>W.tr _ _ _ (N a ((l+r)/2) (ng L)<|fL m g) h) H q
theorem YD:∀(z:Nat) (p:Array Nat) (k:Nat),Pm p n->k+z=n->Up f p k->(∀C,Pm C n->Up f C n->Q C s)->(kas_bin z p k).kasWp cmp Q s:=by
 intro D;induction D with
 |zero=>
  calc λp k hp hk m q=>q p hp<|by rw[<-hk];calc m
 |succ z L=>
  intro p k hp hk m q;show((CQ p k k 0 k).bind λl=>kas_bin z (bubble p k<|k -l)<|k+1).kasWp cmp Q s;rw[Cc];calc Yo W hc hp (by calc(ax 494293746673) hk) m k 0 k (cO _) (bS _) (by calc(ax 144386184385) hk) (λa h=>absurd h<|Hm _) (λa h1 H=>absurd H<|lX.mpr h1) λl I h1 H=>?_;have hz:=hp.size;calc L _ (k+1) (hp.perm<|bubble_perm _ _ _) (by calc(ax 434927719617) hk) (λa b g hb=>?_) q;have J:∀i,(bubble p k<|k -l).getD i 0=if i=k -(k -l) then p.getD k 0 else if k -(k -l)<i/\i<=k then p.getD (i -1) 0 else p.getD i 0:=Wn (by calc(aV 0x7316a403f16a3) hk hz) (by calc(cK 0x219316a403f12136a00f) hk I hz);have e:k -(k -l)=l:=by exact(cK 0x63993116a403f12136a00f) hk I hz
  rw[e] at J;rw[J,J];by_cases r:a=l
  .rw[if_pos r];by_cases j:b=l
   .rw[if_pos j];exact W.fX _
   .rw[if_neg j,if_pos (show l<b/\b<=k from(dB [_,_,_,_,_,_,_] 0xaf253731600f40df5600f07f2313f703f361991556113fd613) hk hz g hb e r j)];exact W.as _ _<|H (b -1) (by calc(aV 0x2983123561991aa615d613) g e r j)<|by exact(dB [_,_,_,_,_,_,_] 0x739816a403f36a00f2107f7c1613f9913f33613f07fd613f1) hk hz g hb e r j
  .rw[if_neg r];by_cases a2:l<a
   .rw[if_pos (show l<a/\a<=k from(oo 0xaf253731600f40df5600f07f213f3703f13f6199155731) hk hz g hb e a2),if_neg<|show¬b=l from(aV 0xd63121563993aa753) g e a2,if_pos (show l<b/\b<=k from(oo 0xaf253731600f40df5600f07f2313f703f36199155713f1) hk hz g hb e a2)];exact m _ _ (by calc(aV 0x29839812316a99a5571a) g e a2)<|by exact(oo 0x739816a403f36a00f2107f7c1613f9913f33707f13f) hk hz g hb e a2
   .rw[if_neg (show¬(l<a/\a<=k) from(ax 0xd0af2537316199155d731) e a2)];by_cases j:b=l
    .rw[if_pos j];exact h1 a<|by exact(ax 0x7316399355d631d713) e r a2
    .rw[if_neg j];by_cases b2:l<b
     .rw[if_pos (show l<b/\b<=k from(dU 0xaf253731600f40df5600f07f703f36199155731) hk hz hb e b2)];exact m _ _ (by calc(aV 0x298312316a99a55d71a73a) g e a2 b2)<|by exact(dU 0x739816a403f36a00f7c1607f9907f337107f) hk hz hb e b2
     .rw[if_neg (show¬(l<b/\b<=k) from(ax 0xd0af2537316199155d731) e b2)];calc m _ _ g<|by calc(dB [_,_,_,_,_,_] 0x7316a403f32300f6a07f7c1600f9900f33d600f1d7100f) hk I hz hb e j b2
theorem Ye(h1:1<=n)(q:∀g,Pm g n->Up f g n->Q g s):(kas_sort n).kasWp cmp Q s:=by
 rw[Cc];calc UO W hc (p:=Cq<|cS n) (ub _) h1 λm p hp l h j=>?_;dsimp only;by_cases hm:m<n
 .rw[if_pos hm]
  have e:max m 1=m:=by exact(aB 417047515672) l
  rw[e];exact YD W hc (n -m) p m hp (by calc(aq 0x63491317316119f81) hm e) j q
 .rw[if_neg hm]
  have:m=n:=by exact(aq 425507018545) h hm
  clear hc hm h h1;subst this;calc q p hp j
end
end
section
variable{c:Cx}
noncomputable def jh(a:Addr)(h h':Heap):Prop:=∀b o,b≠a->h.get? b=some o->h'.get? b=some o
theorem jh.trans(k:jh a h h')(l:jh a h' g):jh a h g:=λb o n e=>l b o n<|k b o n e
theorem jh.push(o:Obj):jh a h (h.push o):=λZ Z Z e=>bW _ e
theorem jh.upd(f:Obj->Obj):jh a h (h.update a f):=λb o n e=>(dA ..).extBut b o n e
theorem WH{vs:List Value}{p:ee}(h:p∈(vs.toArray.zip vs.toArray).toList):p.1=p.2/\p.1∈vs:=by
 have e:(vs.toArray.zip vs.toArray).toList=vs.zip vs:=by simp
 rw[e] at h;calc mem_zip_self h
theorem Ym{vs:List Value}{xs:Array ee}(h:xs.Perm<|vs.toArray.zip vs.toArray):(xs.map (·.2)).toList.Perm vs:=by
 have h1:=(rR.mp h).map λp:ee=>p.2;rw[O7]
 have e:((vs.toArray.zip vs.toArray).toList).map (λp:ee=>p.2)=vs:=by
  have e:(vs.toArray.zip vs.toArray).toList=vs.zip vs:=by simp
  rw[e];exact R3<|bS _
 rwa [e] at h1
theorem XW{s:aA}{a:Addr}{vs:List Value}{κ:uy}{P:CI->aA->Prop}(L:s.heap.get? a=some (cA "list" vs.toArray n))(hs:small vs.length)(hk:2<=vs.length->∀s',jh a s.heap s'.heap->ao (aO c.prog c.w) A (HY vs.toArray) (λq z=>z=s'/\q=κ) EF s')(S:2<=vs.length->∀s',jh a s.heap s'.heap->jZ (aO c.prog c.w) A s' κ λp=>p.1∈vs)(h:∀(out:List Value) (h':Heap) (k:Nat),out.Perm vs->jh a s.heap h'->h'.get? a=some (cA "list" out.toArray k)->P (.done<|.ret .none) {s with heap:=h'}):ao (aO c.prog c.w) A (jd.«list.sort» ⟨[.ref a],[]⟩) P EF s:=by
 rw[list_sort_plain];have U:a<s.heap.objs.size:=fN L;unfold small at hs;have l:vs.toArray.size<=ly:=by rw[rX,dO];exact Q0 hs
 calc af<|Cz L rfl<|af<|wJ L rfl (ai (⟨_,yR L λZ=>#[]⟩:∃e1,(s.heap.update a<|dc λZ=>#[]).get? a=some (cA "list" #[] e1)) λe1 C=>?_) l (by show(#[]:Array Value).size<=_;simp);calc af<|CF C rfl<|af<|Hx (af<|HG (co ?_)<|by rw[dO];simp) (by simpa using l);have j:(((s.heap.update a<|dc λZ=>#[]).push<|cA "tuple" vs.toArray 0).push<|cA "list" #[] 0).get? a=some (cA "list" #[] e1):= bW _<|bW _ C;have keep:jh a s.heap (((s.heap.update a<|dc λZ=>#[]).push<|cA "tuple" vs.toArray 0).push<|cA "list" #[] 0):=((jh.upd _).trans<|jh.push _).trans<|jh.push _;show ao (aO c.prog c.w) A _ P EF {s with heap:=((s.heap.update a<|dc λZ=>#[]).push<|cA "tuple" vs.toArray 0).push<|cA "list" #[] 0};generalize X:((s.heap.update a<|dc λZ=>#[]).push<|cA "tuple" vs.toArray 0).push (cA "list" #[] 0)=H at j keep|-;dsimp only;have D:vs.toArray.size=vs.length:=rfl;have fin:∀g:bB,(arrOf g).Perm (vs.toArray.zip vs.toArray)->P (.done<|.ret .none) {s with heap:=H.update a (dc λZ=>(arrOf g).map (·.2))}:=λg hp=>by have:=yR j (λZ=>(arrOf g).map (·.2));rw[<-yJ (xs:=(arrOf g).map (·.2))] at this;exact h _ _ _ (Ym hp) (keep.trans<|jh.upd _) this
 have len:∀g:bB,(arrOf g).Perm (vs.toArray.zip vs.toArray)->((arrOf g).map (·.2)).size<=ly+1:=λg hp=>by rw[Pc,hp.size_eq];simp;rw[dO];exact(aq 0x2481af1205f1613) hs D
 by_cases I:vs.toArray.size<2
 .rw[if_pos I,if_pos I];calc af<|ap ?_;rw[N2];calc af<|ap ?_;dsimp only;calc af<|CF j rfl<|af<|wJ j rfl ?_ (lb rfl)<|len (yX general' (vs.toArray.zip vs.toArray) #[] 7 none)<|BX _;rw[if_neg (kL)];exact ap<|fin (yX general' (vs.toArray.zip vs.toArray) #[] 7 none)<|BX _
 .rw[if_neg I,if_neg I];have J:2<=vs.length:=(aq 0x2104f205f1613d704f3) hs D I;calc af<|aS (hk J {s with heap:=H} keep) (λq z e=>?_) λZ Z x=>x;have r:=e.1;have m:=e.2;clear e;subst r;clear hk;subst m;calc af<|aS (A0 (S J {s with heap:=H} keep) (st:=yX q (vs.toArray.zip vs.toArray) #[] 7 none) (Q:=λZ g=>Turn (yX q (vs.toArray.zip vs.toArray) #[] 7 none) g) (λp hp=>(WH hp).2) rfl ⟨rfl,rfl⟩ λg T=>T) ?_ λZ Z e=>e;intro r;obtain⟨⟨⟩,g⟩:=r;intro s' m;have N:=m.1;have T:=m.2;clear m;subst N;have hp:(arrOf g).Perm (vs.toArray.zip vs.toArray):=T.perm;dsimp only;calc af<|CF j rfl<|af<|wJ j rfl ?_ (lb rfl)<|len g hp;rw[T.failed];rw[if_neg (kL)];calc ap<|fin g hp
noncomputable def Mq(c:Cx)(A:cj)(v:Value)(s:aA)(Q:List Value->aA->Prop):Prop:=ao (aO c.prog c.w) A (collect v) Q EF s
theorem Fu(hc:Mq c A.in1 v s λvs s₁=>small vs.length/\(2<=vs.length->∀s',(∀b o,s₁.heap.get? b=some o->s'.heap.get? b=some o)->ao (aO c.prog c.w) A.in1.in1 (HY vs.toArray) (λj l=>l=s'/\j=κ) EF s')/\(2<=vs.length->∀s',(∀b o,s₁.heap.get? b=some o->s'.heap.get? b=some o)->jZ (aO c.prog c.w) A.in1.in1 s' κ λp=>p.1∈vs)/\(∀(out:List Value) (h':Heap) (k:Nat),out.Perm vs->(∀b o,s₁.heap.get? b=some o->h'.get? b=some o)->s₁.heap.get? s₁.heap.objs.size=none->h'.get? s₁.heap.objs.size=some (cA "list" out.toArray k)->Q (.ref s₁.heap.objs.size) {s₁ with heap:=h'})):ao (aO c.prog c.w) A (call (.builtin "sorted") [v]) Q EF s:=by calc G6 kind_sorted plain_sorted entry_sorted (args_sorted1 _) ?_;unfold jd.«sorted»;calc af (m:=checkCount "sorted" 1 1 _)<|ap<|af<|aS hc (λvs s₁ h₁=>bV h₁ λhs hk C h=>?_) λZ Z x=>x;have g:=hs;unfold small at g;calc af<|HG ?_ (by rw[dO];calc Q0 g);have r:(s₁.heap.push<|cA "list" vs.toArray 0).get? s₁.heap.objs.size=some (cA "list" vs.toArray 0):=dy _ rfl;have z:=gA s₁.heap<|bS s₁.heap.objs.size;have ext:∀{h':Heap},jh s₁.heap.objs.size (s₁.heap.push<|cA "list" vs.toArray 0) h'->∀b o,s₁.heap.get? b=some o->h'.get? b=some o:=λk b o e=>k b o (λhh=>by rw[hh,z] at e;calc bp e)<|bW _ e;calc af<|co<|eL slot_list_sort ⟨_,r,rfl⟩ entry_list_sort (XW (s:={s₁ with heap:=s₁.heap.push<|cA "list" vs.toArray 0}) r hs (λq s' k=>hk q s'<|ext k) (λq s' k=>C q s'<|ext k) λout h' k hp D hg=>⟨_,rfl,ap ⟨_,rfl,h out h' k hp (ext D) z hg⟩⟩)<|args_list_sort _
end
section
variable{prog:eN}{w:bR}
theorem Ux{s:aA}{vs:List Value}(l:2<=vs.length)(h:∀v∈vs,∃n t,v= .int n t):ao (aO prog w) A (HY vs.toArray) (λg j=>j=s/\g=oneType') EF s:=by
 cases vs with
 |nil=>calc absurd l<|gm _
 |cons m vs=>
  cases vs with
  |nil=>calc absurd (rU l)<|gm _
  |cons p vs=>
   rw[keyKind_ints (intsAre_map _ h)];calc ap ⟨rfl,rfl⟩
theorem Zy{A:cj}{s:aA}{vs:List Value}(h:∀v∈vs,∃n t,v= .int n t):jZ (aO prog w) A s oneType' λp=>p.1∈vs:=λx y g hy=>by calc aE (h _ g) λn t e=>aE (h _ hy) λm u j=>?_;rw[e,j,keyLt'_oneType];calc oneLt_int rfl
noncomputable def Mz(x y:Dt):Prop:=(∃a b,x= .str a/\y= .str b)\/(∃a b,x= .int a/\y= .int b)
theorem YX(h:Mz x y)(j:be w s.heap.get? x u)(l:be w s.heap.get? y v)(q:Q (iI x y) s):ao (aO prog w) A (oneLt' true u v) Q EF s:=by
 rcases h with⟨a,b,rfl,rfl⟩|⟨a,b,rfl,rfl⟩
 .refine ai j λt e=>ai l λm g=>?_;rw[e,g];exact oneLt_str q
 .refine ai j λt e=>ai l λm g=>?_;rw[e,g];calc oneLt_int q
theorem Wo(l:List Dt):∀(m:List Dt) (i:Nat) (us vs:List Value),Dt.keys l=true->Dt.keys m=true->pC l m->A.units+Dt.dG l+2<dP->aT w s.heap.get? l us->aT w s.heap.get? m vs->Q (cV l m) s->fin=decide (l.length<m.length)->KatLex prog w A true fin Q (us.zip vs) (i+1) s:=by
 induction l with
 |nil=>
  intro m i us vs _ _ _ _ h1 p q hf;rw[show us=[] from h1,N8];calc kat_nil ?_;rw[hf,<-Kx m];calc q
 |cons x l J=>
  intro m i us vs h j hc r h1 p q hf;cases m with
  |nil=>
   rw[show vs=[] from p,M8];calc kat_nil ?_;rw[hf];calc q
  |cons y m=>
   calc mr h1 λu us' e H z=>?_;clear h1;subst e;calc mr p λv C e I D=>?_;clear p;subst e;have h:=iS h;have j:=iS j;rw[kW] at q;rw[tQ];calc kat_cons<|th h.1 j.1 ((dB [_,_,_,_,_] 0x7a415f5317a404f419f00f31) r) H I ?_;by_cases g:x=y
   .rw[decide_eq_true g];rw[if_pos g] at q;exact kat_yes<|J m (i+1) us' C h.2 j.2 (hc.1 g) ((aV 0x75404f43175404f419f3a1) r) z D q<|hf.trans<|decide_eq_decide.mpr GJ
   .rw[decide_eq_false g];rw[if_neg g] at q;calc kat_no<|kat_one u v<|XV x y h.1 j.1 (hc.2 g) ((aV 0x75404f43175404f419fa31) r) H I q
theorem DA(hh:Mz x y)(r:Dt.keys (x::l)=true)(z:Dt.keys (y::m)=true)(hc:pC (x::l) (y::m))(L:A.units+Dt.dG (x::l)+2<dP)(h:be w s.heap.get? (.tup (x::l)) u)(j:be w s.heap.get? (.tup (y::m)) v)(q:Q (cV (x::l) (y::m)) s):ao (aO prog w) A (keyLt' (wV true) u v) Q EF s:=by
 calc vL h λa o items n e S T hd hi=>?_;clear h;subst e;calc vL j λb X C Y e D N H p=>?_;clear j;subst e;calc kat_lt S hd D H ?_;have h1:=hi.length;have P:=p.length;rw[cu] at h1 P;calc mr hi λu us e h I=>mr p λv vs U j J=>?_;rw[e,U,tQ,h1,P];have r:=iS r;have z:=iS z;rw[kW] at q;calc kat_cons<|th r.1 z.1 ((dB [_,_,_,_,_] 0x7a415f5317a404f419f00f31) L) h j ?_;by_cases g:x=y
 .rw[decide_eq_true g];rw[if_pos g] at q;exact kat_yes<|Wo l m 0 us vs r.2 z.2 (hc.1 g) ((aV 0x75404f43175404f419f3a1) L) I J q<|decide_eq_decide.mpr GJ
 .rw[decide_eq_false g];rw[if_neg g] at q;calc kat_no<|YX hh h j q
structure Rows(ds:List<|List Dt):Prop where
 keys:∀l∈ds,Dt.keys l=true
 deep:∀l∈ds,Dt.dG l<=20
 head:(∀l∈ds,∃a r,l= .str a::r)\/(∀l∈ds,∃a r,l= .int a::r)
 cmp:∀l∈ds,∀m∈ds,pC l m
theorem Rows.at{ds:List<|List Dt}(h:aT w B (ds.map .tup) vs)(g:v∈vs):∃l∈ds,be w B (.tup l) v:=ai (h.pick v g) λd q=>ai (bb.mp q.1) λl p=>⟨l,p.1,p.2▸q.2⟩
theorem JC{A:cj}{s:aA}{B:Look}{ds:List<|List Dt}(R:Rows ds)(C:A.units+30<dP)(D:B.le s.heap.get?)(h:aT w B (ds.map .tup) vs):jZ (aO prog w) A s (wV true) λp=>p.1∈vs:=λx y I hy=>by
 calc ai (Rows.at h I) λl g=>?_;have j:=g.1;have J:=g.2;calc ai (Rows.at h hy) λm g=>?_;have hm:=g.1;have rm:=g.2;have q:=be.mono D J;have z:=be.mono D rm;have dl:=R.deep l j;rcases R.head with H|H
 .refine aE (H l j) λa r g=>?_;subst g;calc aE (H m hm) λb L g=>?_;subst g;exact DA (.inl<|bv a b ⟨rfl,rfl⟩) (R.keys _ j) (R.keys _ hm) (R.cmp _ j _ hm) ((ax 0x75404f4317542af1226f3) C dl) q z rfl
 .refine aE (H l j) λa r g=>?_;subst g;calc aE (H m hm) λb L g=>?_;subst g;calc DA (.inr<|bv a b ⟨rfl,rfl⟩) (R.keys _ j) (R.keys _ hm) (R.cmp _ j _ hm) ((ax 0x75404f4317542af1226f3) C dl) q z rfl
theorem Zr{s:aA}{B:Look}(C:B.le s.heap.get?):∀{ds:List<|List Dt} {vs:List Value},(∀l∈ds,l≠[])->aT w B (ds.map .tup) vs->∃g,KatTups s.heap vs g/\g.length=ds.length/\aT w B (ds.map λl=>l.headD .none) g:=by
 intro m;induction m with
 |nil=>
  intro vs _ h;rw[show vs=[] from h];calc⟨[],aR (.nil) rfl rfl⟩
 |cons d ds D=>
  intro vs j p;obtain⟨v,H,e,⟨a,o,items,n,ev,I,hc,hd,hi⟩,J⟩:=p;subst e;subst ev;calc ai (D (λl q=>j l<|dw _ q) J) λg z=>aN z λt q L=>?_;cases d with
  |nil=>calc absurd rfl<|j [] dC
  |cons x r=>
   obtain⟨u,us,e,N,P⟩:=hi;calc⟨u::g,.cons (C _ _ I) hc hd ?_ t,by simp[q],u,g,rfl,N,L⟩;rw[<-fj,e];rfl
theorem Gg(R:Rows ds)(L:2<=ds.length)(N:B.le s.heap.get?)(h:aT w B (ds.map .tup) vs):ao (aO prog w) A (HY vs.toArray) (λj m=>m=s/\j=wV true) EF s:=by
 have C:∀l∈ds,l≠[]:=λl g=>by exact R.head.elim (λH=>aE (H l g) λa r e=>e▸GY _ _) λH=>aE (H l g) λa r e=>e▸GY _ _
 obtain⟨P,t,g,J⟩:=Zr N C h
 have T:∃T,(∀v∈P,Looks (aO prog w) s.heap (zn v) T)/\(T==T)=true/\(T !=kJ "tuple")=true:=by
  rcases R.head with H|H
  .refine⟨.type "str",aR (λv D=>ai (J.pick v D) λd q=>ai (bb.mp q.1) λl p=>aE (H l p.1) λa r e=>?_) rfl rfl⟩;have z:=q.2;rw[<-p.2,e] at z;exact ai (show∃t,v= .str a t from z) λt e=>e▸Hu rfl
  .refine⟨.type "int",aR (λv D=>ai (J.pick v D) λd q=>ai (bb.mp q.1) λl p=>aE (H l p.1) λa r e=>?_) rfl rfl⟩;have z:=q.2;rw[<-p.2,e] at z;exact ai (show∃t,v= .int a t from z) λt e=>e▸Hu rfl
 calc ai T λT I=>aN I λh1 S U=>kat_kind t ((aq 7826017941041) L g) h1 S ?_;rw[U];calc⟨rfl,rfl⟩
end
section
variable{c:Cx}{k:Nat}{V:Env}{O:al}{ρ:az}
section
variable{prog:eN}{w:bR}{A:cj}{E:Value->aA->Prop}{s:aA}
theorem Sg(g:s.heap.IsKeyIter it d i es.size ep)(j:s.heap.get? d=some q)(l:q.data= .dict es ep)(r:es[i]? =some e)(z:∀h',h'.IsKeyIter it d (i+1) es.size ep->lU it s.heap h'->Q (some e.key) {s with heap:=h'}):ao (aO prog w) A (gM<|.ref it) Q E s:=by
 obtain⟨o,m,hc,hd⟩:=id g;calc af<|nZ<|jW (name:=ak "__next__") g.typeIs BH<|eL BH g.typeIs G4 ?_<|F7 _;refine af<|ap<|af<|af ?_
 first|refine af (Gp g.typeIs<|ap ?_)|refine af<|GA g.typeIs<|ap ?_
 calc af<|yS m hd ?_;have p:D8 "dict_keyiterator"=false:=by decide
 show ao _ _ (if(lY d==ga)=true then _ else _) _ _ s;rw[if_neg (show¬((lY d==ga)=true) from lr)];calc af<|ap<|af<|rZ j l ?_;rw[if_neg (kL)];calc af<|ap<|af<|se j l ?_;rw[if_neg (kL)];calc ap ?_;dsimp only;rw[if_neg (sh.mpr<|wA i),hH,r];refine af ?_
 first|refine af (Gp g.typeIs<|ap ?_)|refine af<|GA g.typeIs<|ap ?_
 calc af<|P7 g.typeIs ?_;show ao _ _ (HV (.ref it) 1 (cF<|(i:Int)+1)>>=_) _ _ s;calc af<|qu m hd (lb rfl) ?_;have h:(s.heap.update it (yT (·.setIfInBounds 1 (cF<|(i:Int)+1)))).IsKeyIter it d (i+1) es.size ep:= ⟨_,fK _ m<|Obj.isFreed_of_fields<|N7 hd _,(Obj.cls_mapFields ..).trans hc,by rw[N7 hd];simp[cF]⟩;calc af (co<|af (P7 (s:={s with heap:=s.heap.update it (yT (·.setIfInBounds 1 (cF<|(i:Int)+1)))}) h.typeIs ?_));show ao _ _ (pure e.key) _ _ _;calc ap<|ap ⟨_,rfl,ap<|z _ h<|dA ..⟩
theorem Su(hh:A.handled=none)(g:s.heap.IsKeyIter it d i es.size ep)(j:s.heap.get? d=some r)(l:r.data= .dict es ep)(z:es[i]? =none)(C:∀h',yW it s.heap h'->Q none {s with heap:=h'}):ao (aO prog w) A (gM<|.ref it) Q E s:=by
 obtain⟨o,p,hc,hd⟩:=id g;calc af<|nZ<|jW (name:=ak "__next__") g.typeIs BH<|eL BH g.typeIs G4 ?_<|F7 _;refine af<|ap<|af<|af ?_
 first|refine af (Gp g.typeIs<|ap ?_)|refine af<|GA g.typeIs<|ap ?_
 calc af<|yS p hd ?_;have q:D8 "dict_keyiterator"=false:=by decide
 show ao _ _ (if(lY d==ga)=true then _ else _) _ _ s;rw[if_neg (show¬((lY d==ga)=true) from lr)];calc af<|ap<|af<|rZ j l ?_;rw[if_neg (kL)];calc af<|ap<|af<|se j l ?_;rw[if_neg (kL)];calc ap ?_;dsimp only;rw[if_neg (sh.mpr<|wA i),hH,z];refine af ?_
 first|refine af (Gp g.typeIs<|ap ?_)|refine af<|GA g.typeIs<|ap ?_
 show ao _ _ (HV (.ref it) 0 .none>>=_) _ _ s;calc af<|qu p hd (lb rfl)<|zM (it:=it) (h:=s.heap) (f:=λZ=>pure<|.done .next) (hh) (dA ..).extBut λh' e he hs=>ai hs λD m=>?_;calc af<|sc (T:="StopIteration") (b:=true) ⟨D,m.1,m.2⟩ Cp<|ap<|C h' he
theorem QH(hh:A.handled=none)(I d:Addr)(m:d≠I)(es:Array en)(ep:Nat)(l:Obj)(g:l.data= .dict es ep):wW prog w A I [I,d] [I] es.size (λi v=>es[i]?.map (·.key)=some v) (λi h=>h.IsKeyIter I d i es.size ep/\h.get? d=some l) where
 sub:=λb hb=>by simp at hb;simp[hb]
 frame:=λZ Z Z st hk=>⟨ai st.1 λo q=>⟨o,hk I (.head _) o q.1,q.2⟩,hk d (.tail _<|.head _) l st.2⟩
 item:=λi s Q E hi st j=>by calc Sg st.1 st.2 g (ct hi) λh' p hs=>?_;exact j _ h' s.toks (by rw[ct hi];rfl) ⟨p,hs.extBut d l m st.2⟩ λb o hb e=>hs.extBut b o (by simpa using hb) e
 done:=λs Q E st j=>Su hh st.1 st.2 g (by simp) λh' he=>j h' s.toks λb o hb e=>he b o (by simpa using hb) e
 self:=λZ Z Z Z st j=>wpAny_pyIter_keyiter st.1 j
end
theorem Rm{A:cj}{s:aA}{P:Nat->Value->Prop}{S:Nat->Heap->Prop}{L:Addr}(W:wW c.prog c.w A.in1 I fp T n P S)(J:small n)(hL:L∉fp)(m:S 0 s.heap)(r:s.heap.get? L=some {cls:= .type "list",data:= .seq #[] e0}){Q:Result->aA->Prop}(h:∀(s':aA) (g:Array Value) (e1:Nat),s'.gens=s.gens->s'.os=s.os->(∀b o,b≠L->b∉T->s.heap.get? b=some o->s'.heap.get? b=some o)->s'.heap.get? L=some {cls:= .type "list",data:= .seq g e1}->g.size=n->(∀j v,g[j]? =some v->P j v)->Q (.ok<|.ret<|.ref L) s'):lz (aO c.prog c.w) A (.builtin "list.extend.loop" ⟨[.ref L,.ref I,.ref L],[]⟩) Q s:=by
 have z:L∉T:=λhh=>hL<|W.sub _ hh
 have main:∀(k i:Nat) (s':aA) (g:Array Value) (e:Nat),n -i=k->i<=n->S i s'.heap->s'.heap.get? L=some {cls:= .type "list",data:= .seq g e}->g.size=i->(∀j v,g[j]? =some v->P j v)->s'.gens=s.gens->s'.os=s.os->
   (∀b o,b≠L->b∉T->s.heap.get? b=some o->s'.heap.get? b=some o)->lz (aO c.prog c.w) A (.builtin "list.extend.loop" ⟨[.ref L,.ref I,.ref L],[]⟩) Q s':=by
  intro k
  induction k with
  |zero=>
   intro i s' g e hk hi m r hz U hg q l;have:i=n:=(ax 0x6316e913231615) hk hi hz;clear hk hi J;subst this;calc pc Gq ?_;rw[rW tN _];show ao _ A.in1 (gM (.ref I)>>=_) _ _ s';calc af<|W.done s' _ _ m λh' tk p=>ap<|h _ g e hg q (λb o hb C X=>p b o C<|l b o hb C X) (p L _ z r) hz U
  |succ k ih=>
   calc λi s' g e hk hi m r hz U hg q l=>pc Gq ?_;rw[rW tN _];show ao _ A.in1 (gM (.ref I)>>=_) _ _ s';calc af<|W.item i s' _ _ ((aV 0x731603f91323161a) hk hi hz) m λv h' tk Y D p=>?_;have H:=p L _ z r;show ao _ A.in1 (uu L (·.push v)>>=_) _ _ _;calc af<|wG H rfl ?_ (by rw[hz,dO];calc(ax 0x21af1205f3231615) J hi hz) (by show(g.push v).size<=_;rw[ua,hz,dO];calc(ax 0x2481afb205f3231615) J hi hz);have Z:(h'.update L (dc (·.push v))).get? L=some {cls:= .type "list",data:= .seq (g.push v)<|e+1}:=by rw[fK _ H (by rw[qz];rfl),qz]
   refine ap ⟨wI tN _,ih (i+1) _ (g.push v) (e+1) ((aV 0x659c1603f93121363a) hk hi hz) ((aV 0x23b603f91323161a) hk hi hz) (W.frame _ _ _ D λb hb o e=>(dA ..).extBut b o (λhh=>hL<|hh▸hb) e) Z (by rw[ua,hz]) (λj u N=>?_) hg q λb o hb C X=>(dA ..).extBut b o hb<|p b o C<|l b o hb C X⟩
   .rw[K9] at N;split at N
    .cases N;subst_vars;exact Y
    .exact U j u N
 calc main n 0 s #[] e0 ((aB 419263809009) J) (cO _) m r rfl (λj v hj=>by simp at hj) rfl rfl λ_ _ _ _ e=>e
theorem ZK(hd:(d==si)=false)(h:s.heap.get? d=some o)(hc:o.cls= .type "dict")(g:o.data= .dict es ep)(l:Q (.ref s.heap.objs.size) {s with heap:=s.heap.push {cls:= .type "dict_keyiterator",data:= .fields #[.ref d,.int 0 0,.int es.size 0,.int ep 0]}}):ao (aO prog w) A (mc<|.ref d) Q E s:=by have j:s.TypeIs (.ref d) "dict":=⟨o,h,hc⟩;calc Hf j V0<|eL V0 j F.entry_dict_iter ?_<|F.args_dict_iter_1 _;calc af ?_;calc af<|GK j ?_;show ao _ _ (pure<|lY d) _ _ s;calc ap ?_;show ao _ _ (F0 d>>=_) _ _ s;unfold F0;rw[if_neg (by rw[hd];calc lr)];calc af<|ap<|af<|rZ h g<|af<|se h g<|af<|nX<|ap ⟨_,⟨rfl,bv ("dict_keyiterator") _<|aR ⟨_,dy _ rfl,rfl⟩ BH.lookup ?_⟩⟩;simpa[cF] using l
theorem sub_dict_dict:isSubtype (.type "dict") (.type "dict")=pure true:=by rw[Hy];kernel_rfl
theorem IU(U:s.TypeIs x T)(m:BI (.ref s.heap.objs.size) x=false)(h1:(kJ T==kJ "list")=false)(r:(kJ T==kJ "tuple")=false)(p:(["set","frozenset","dict","dict_keys","dict_values","dict_items"].any λt=>kJ T== .type t)=true)(h:ao (aO c.prog c.w) A.in1 (mc x) (λit s₁=>ao (aO c.prog c.w) A.in1 (E4 x) (λb s₂=>∃(I:Addr) (z C:List Addr) (n:Nat) (P:Nat->Value->Prop) (D:Nat->Heap->Prop) (H:Nat),it= .ref I/\wW c.prog c.w A.in1 I z C n P D/\small n/\D 0 s₂.heap/\s.heap.objs.size∉z/\s₂.heap.get? s.heap.objs.size=some {cls:= .type "list",data:= .seq #[] H}/\∀(s':aA) (g:Array Value),s'.gens=s₂.gens->s'.os=s₂.os->(∀b o,b≠s.heap.objs.size->b∉C->s₂.heap.get? b=some o->s'.heap.get? b=some o)->g.size=n->(∀j v,g[j]? =some v->P j v)->Q g.toList s') EF s₁) EF {s with heap:=s.heap.push {cls:= .type "list",data:= .seq ([]:List Value).toArray}}):ao (aO c.prog c.w) A (collect x) Q EF s:=by
 calc af<|Pq<|pc PySem.F.entry_proto_collect ?_;rw[rW PySem.F.plain_proto_collect _];show ao _ A.in1 (newList []>>=λl=>pB<|.builtin "list.__iadd__" ⟨[l,x],[]⟩) _ _ s;calc af<|nX (ap ⟨wI F9 _,pc PySem.F.entry_list_iadd ?_⟩) (by show([]:List Value).toArray.size<=ly;rw[dO];simp);rw[rW F9 _];show ao _ A.in1 (NU (.ref s.heap.objs.size) x<|.ref s.heap.objs.size) _ _ _;have J:Pd {s with heap:=s.heap.push {cls:= .type "list",data:= .seq ([]:List Value).toArray}} x T:=by cases x<;>first|exact U|(obtain⟨o,h1,r⟩:=U;calc⟨o,bW _ h1,r⟩)
 calc af<|ug J ?_;calc cw (by rw[m,h1,r];rfl) ?_;calc af<|kC<|aS h (λit s₁ hh=>af<|co<|kC<|aS hh (λb s₂ hh=>?_) λ_ _ x=>x) λ_ _ x=>x;obtain⟨I,z,C,n,P,D,H,rfl,W,Z,L,X,Y,hq⟩:=hh;have hb:(b||["set","frozenset","dict","dict_keys","dict_values","dict_items"].any λt=>kJ T== .type t)=true:=by rw[p];simp
 show ao _ A.in1 (if(b||["set","frozenset","dict","dict_keys","dict_values","dict_items"].any λt=>kJ T== .type t)=true then _ else _) _ _ _;calc fM (decide_eq_true hb)<|af<|fq<|af ?_;show ao _ _ (uu s.heap.objs.size (·.push .none)>>=λ_=>uu s.heap.objs.size (·.pop)) _ _ _;calc af<|wG Y rfl ?_ (lb rfl)<|lb rfl;have q:(s₂.heap.update s.heap.objs.size (dc (·.push ga))).get? s.heap.objs.size=some {cls:= .type "list",data:= .seq ((#[]:Array Value).push .none)<|H+1}:=by rw[fK _ Y (by rw[qz];rfl),qz]
 calc wG q rfl ?_ (by rw[dO];simp) (by rw[dO];simp);obtain⟨e3,N⟩:∃e3,((s₂.heap.update s.heap.objs.size (dc (·.push ga))).update s.heap.objs.size (dc (·.pop))).get? s.heap.objs.size=some {cls:= .type "list",data:= .seq #[] e3}:=by have h:=fK (dc (·.pop)) q rfl;unfold dc at h;dsimp only at h;rw[T1] at h;exact⟨_,h⟩
 have same:lU s.heap.objs.size s₂.heap ((s₂.heap.update s.heap.objs.size (dc (·.push ga))).update s.heap.objs.size (dc (·.pop))):=(dA ..).trans<|dA ..;calc ap ⟨wI tN _,Rm (s:={s₂ with heap:=(s₂.heap.update s.heap.objs.size (dc (·.push ga))).update s.heap.objs.size (dc (·.pop))}) W Z X (W.frame _ _ _ L λb hb o e=>same.extBut b o (λhh=>X<|hh▸hb) e) N λs' g e1 hg S hk hl hz hP=>?_⟩;show ao _ _ (load s.heap.objs.size>>=_) _ _ s';calc af<|PY hl<|ap<|hq s' g hg S (λb o hb hw e=>hk b o hb hw<|same.extBut b o hb e) hz hP
theorem ID(hh:A.handled=none)(hd:(d==si)=false)(I:s.heap.get? d=some {cls:= .type "dict",data:= .dict es ep})(hs:small es.size)(q:∀s',s'.gens=s.gens->s'.os=s.os->(∀b o,s.heap.get? b=some o->s'.heap.get? b=some o)->Q (es.toList.map (·.key)) s'):ao (aO c.prog c.w) A (collect<|.ref d) Q EF s:=by
 have g:d<s.heap.objs.size:=fN I;calc IU (T:="dict") ⟨_,I,rfl⟩ (by simp[BI];calc(hZ g).symm) (by decide) (by decide) (by decide) ?_;have r:(s.heap.push {cls:= .type "list",data:= .seq ([]:List Value).toArray}).get? d=some {cls:= .type "dict",data:= .dict es ep}:=bW _ I;have z:(s.heap.push {cls:= .type "list",data:= .seq ([]:List Value).toArray}).objs.size=s.heap.objs.size+1:=hV ..;calc ZK (s:={s with heap:=s.heap.push {cls:= .type "list",data:= .seq ([]:List Value).toArray}}) hd r rfl rfl ?_;dsimp only;rw[z];have C:=bW {cls:= .type "dict_keyiterator",data:= .fields #[.ref d,.int 0 0,.int es.size 0,.int ep 0]} r;have l:Pd {s with heap:=(s.heap.push {cls:= .type "list",data:= .seq ([]:List Value).toArray}).push {cls:= .type "dict_keyiterator",data:= .fields #[.ref d,.int 0 0,.int es.size 0,.int ep 0]}} (.ref d) "dict":=⟨_,C,rfl⟩;calc af<|pb l Oh.lookup ?_;dsimp only;rw[show splitId "dict.__len__"=some ("dict","__len__") from by decide+kernel];dsimp only;calc af<|sc (b:=true) l sub_dict_dict<|cw rfl<|fM rfl<|af<|ug l<|ap ?_;have m:((s.heap.push {cls:= .type "list",data:= .seq ([]:List Value).toArray}).push {cls:= .type "dict_keyiterator",data:= .fields #[.ref d,.int 0 0,.int es.size 0,.int ep 0]}).get? (s.heap.objs.size+1)=some {cls:= .type "dict_keyiterator",data:= .fields #[.ref d,.int 0 0,.int es.size 0,.int ep 0]}:=by rw[<-z];exact dy _ rfl
 have D:d≠s.heap.objs.size+1:=eg (by have: @zo Nat _ d s.heap.objs.size:=g;calc(aq 225187633) this);refine⟨_,_,_,_,_,_,0,rfl,QH (A:=A.in1) hh (s.heap.objs.size+1) d D es ep _ rfl,hs,⟨⟨_,m,rfl,rfl⟩,C⟩,?_,bW _<|dy _ rfl,λs' p hg J hk hz N=>?_⟩
 .intro hm;rcases dD.mp hm with h|h
  .exact(eg<|(aB 54961)) h
  .rcases dD.mp h with h|h
   .exact(hZ g).symm h
   .exact cX h
 .have e:p.toList=es.toList.map (·.key):=by
   apply yO;intro j;rw[dm,fj,fj];by_cases hj:j<es.size
   .have H:j<p.size:=Q6 hz hj;have h1:=N j p[j]<|ct H;rw[ct H,h1]
   .rw[qo ((ax 150698317651) hz hj),qo ((aq 36820755) hj)];rfl
  rw[e];calc q s' hg J λb o L=>?_;have hb: @zo Nat _ b s.heap.objs.size:=fN L;calc hk b o (hZ hb) (λhm=>?_)<|bW _<|bW _ L;rw[(ci.mp hm)] at hb;calc gm _<|(aB 8292123) hb
end
section
variable{c:Cx}{k:Nat}{V:Env}{O:al}{ρ:az}
theorem aT.perm{w:bR}{B:Look}{vs out:List Value}(h:vs.Perm out):∀{ds:List Dt},aT w B ds vs->∃m,m.Perm ds/\aT w B m out:=by
 induction h with
 |nil=>calc λ{ds} h=>⟨ds,ub _,h⟩
 |cons x _ J=>
  intro ds h;cases ds with
  |nil=>cases(show _=[] from h)
  |cons d ds=>
   obtain⟨v,vs,e,r,p⟩:=h;calc aw (dN e) λg j=>?_;subst g;clear e;subst j;calc ai (J p) λm g=>aw g λhp q=>⟨d::m,hp.cons d,x,_,rfl,r,q⟩
 |swap x y l=>
  intro ds h;cases ds with
  |nil=>cases(show _=[] from h)
  |cons d ds=>
   obtain⟨v,vs,e,r,p⟩:=h;calc aw (dN e) λg j=>?_;subst g;clear e;subst j;cases ds with
   |nil=>cases(show _=[] from p)
   |cons z ds=>
    obtain⟨T,L,e2,C,D⟩:=p;calc aw (dN e2) λg j=>?_;subst g;clear e2;subst j;calc⟨z::d::ds,Hc _ _ _,_,_,rfl,C,_,_,rfl,r,D⟩
 |trans _ _ H I=>
  intro ds h;calc ai (H h) λU g=>aw g λN P=>ai (I P) λz g=>aw g λS C=>⟨z,S.trans N,C⟩
theorem rQ{α I:Type}{f:α->I}:∀{l:List α} {m:List I},m.Perm (l.map f)->∃H:List α,H.Perm l/\m=H.map f:=by
 intro l m h;generalize q:l.map f=m' at h;induction h generalizing l with
 |nil=>
  calc⟨[],by rw[(Ot.mp q)],rfl⟩
 |cons x _ J=>
  cases l with
  |nil=>calc nE q
  |cons a l=>
   calc aw (dN q) λg z=>?_;clear q;subst g;calc ai (J z) λH g=>aw g λp j=>?_;clear g;clear J;subst j;calc⟨a::H,p.cons a,rfl⟩
 |swap x y r=>
  cases l with
  |nil=>calc nE q
  |cons a l=>
   calc aw (dN q) λg z=>?_;subst g;cases l with
   |nil=>calc nE z
   |cons b l=>
    calc aw (dN z) λg j=>?_;subst g;clear z q;subst j;calc⟨b::a::l,Hc _ _ _,rfl⟩
 |trans _ _ C D=>
  calc ai (D q) λl1 g=>aw g λL j=>?_;clear g;clear D;subst j;calc ai (C rfl) λl2 g=>aw g λN j=>?_;clear g;clear C;subst j;calc⟨l2,N.trans L,rfl⟩
theorem Sat.AH{B R:Look}{s:aA}(S:Sat c B O R s){s':aA}{a:Addr}{out:List Value}{ds:List Dt}{n:Nat}(hg:s'.gens=s.gens)(h:s'.os=s.os)(hk:∀b o,s.heap.get? b=some o->s'.heap.get? b=some o)(j:s.heap.get? a=none)(l:s'.heap.get? a=some (cA "list" out.toArray n))(r:aT c.w B ds out):∃B',B.le B'/\Sat c B' O R s'/\be c.w B' (.lst ds) (.ref a):=by have m:Sat c B O R s':=S.grow hg h hk;have hb:=S.qK j;have g:=m.rG hb (S.pG j) l;rw[rM (S.qf j)] at g;calc⟨_,fW hb,g,_,_,_,_,rfl,eE ..,rfl,rfl,aT.mono (fW hb) r⟩
theorem Zi{a:Addr}{l:List<|Dt×PV}{ds:List<|List Dt}{Q:PV->al->Prop}(N:O a=some (.aM l))(hd:l.map (·.1)=ds.map .tup)(hs:small l.length)(R:Rows ds)(q:∀ks:List<|List Dt,ks.Perm ds->Q (.d<|.lst<|ks.map .tup) O):aW c k (.builtin "sorted") [.ref a] O Q:= .mk λA B Rr s vs r S P=>by
 calc ai P.un λv g=>aw g λm U=>?_;clear g;clear P;subst m;rw[show v= .ref a from U];calc aE (S.aM N) λes ep g=>aN g λX D Y=>?_;have h:=D.a;rw[hd] at h;have p:es.size=l.length:=td D;have z:(es.toList.map (·.key)).length=ds.length:=by rw[h.length,au]
 refine Fu (κ:=wV true)<|ID (r.handled) (S.vr N) X (by rw[p];calc hs) λs₁ hg H hk=>cx ?_ (λT s' j=>Gg R (by rw[<-z];calc T) (λb o e=>j b o<|hk b o<|S.fb b o e) h) (λT s' j=>JC R (by show A.units+1+1+30<dP;calc(ax 0x7342af48b23423f422f51) r.units) (λb o e=>j b o<|hk b o<|S.fb b o e) h) λout h' n hp j Z I=>?_
 .rw[au,cu,p];exact hs
 .refine ai (aT.perm hp.symm h) λa0 g=>aw g λC J=>ai (rQ C) λks g=>aw g λL m=>?_;clear g;clear C g;subst m;calc ai ((S.grow hg H hk).AH (s':={s₁ with heap:=h'}) rfl rfl j Z I J) λB' g=>aN g λl' S' rr=>⟨B',O,.d<|.lst<|ks.map .tup,l',S',rr,q ks L⟩
theorem Jw{w:bR}{B:Look}:∀{is:List Int} {vs:List Value},aT w B (is.map .int) vs->IntsAre vs is:=by
 intro g;induction g with
 |nil=>
  intro vs h;rw[show vs=[] from h];calc .nil
 |cons i is l=>
  intro vs j;obtain⟨v,m,e,⟨t,ev⟩,p⟩:=j;rw[e,ev];calc .cons i t<|l p
theorem Um{w:bR}{B:Look}{is:List Int}{vs:List Value}(h:IntsAre vs is):aT w B (is.map .int) vs:=by
 induction h with
 |nil=>rfl
 |cons i t _ g=>calc⟨_,_,rfl,⟨t,rfl⟩,g⟩
theorem Qg{h:Heap}{vs:List Value}{out:Array Value}{b:Addr}{o:Obj}(e:h.get? b=some o):(CS h vs out).get? b=some o:=by have hb: @zo Nat _ b h.objs.size:=fN e;unfold CS sortedHeap;have n1:b≠h.objs.size+1:=eg<|(aq 225187633) hb;have e1:((h.push<|cA "list" #[] 0).update h.objs.size (dc (·++vs.toArray))).get? b=some o:=(dA ..).extBut b o (eg<|(aq 224597809) hb)<|bW _ e;have e2:=bW (cA "list" vs.toArray 0) e1;calc(dA ..).extBut b o n1<|bW _<|bW _<|(dA ..).extBut b o n1 e2
theorem sortedAll_at{h:Heap}{vs:List Value}{out:Array Value}:∃n,(CS h vs out).get? (h.objs.size+1)=some (cA "list" out n):=by
 unfold CS sortedHeap;have g:((h.push<|cA "list" #[] 0).update h.objs.size (dc (·++vs.toArray))).objs.size=h.objs.size+1:=by rw[R0,hV]
 have h0:(((h.push<|cA "list" #[] 0).update h.objs.size (dc (·++vs.toArray))).push<|cA "list" vs.toArray 0).get? (h.objs.size+1)=some (cA "list" vs.toArray 0):=by rw[<-g];exact dy _ rfl
 have h1:=yR h0 λZ=>#[];have j:=bW (cA "list" #[] 0)<|bW (cA "tuple" vs.toArray 0) h1;calc⟨_,yR j λZ=>out⟩
theorem Ld{A:cj}{B R:Look}{s:aA}{a:Addr}{items:Array Value}{is:List Int}{Q:PV->al->Prop}(S:Sat c B O R s)(p:s.heap.IsList a items)(hi:IntsAre items.toList is)(g:is.length<64)(q:∀j:List Int,j.Perm is->j.Pairwise (·<=·)->Q (.d<|.lst<|j.map .int) O):ao (aO c.prog c.w) A (call (.builtin "sorted") [.ref a]) (gc c Q B R) EF s:=by calc sorted_ints (vs:=items.toList) (by rw[yJ];calc p) hi ((aq 0x721f1721f3631) g hi.length) λout l r hp hs=>?_;calc ai (sortedAll_at (h:=s.heap) (vs:=items.toList) (out:=out)) λn hg=>?_;rw[<-yJ (xs:=out)] at hg;calc ai (S.AH (s':={s with heap:=CS s.heap items.toList out}) rfl rfl (λb o e=>Qg e) (gA s.heap<|show s.heap.objs.size<=s.heap.objs.size+1 from oa _) (by rw[yJ] at hg|-;calc hg)<|Um (B:=B) r) λB' m=>aN m λz C D=>⟨B',O,.d<|.lst<|l.map .int,z,C,D,q _ hp hs⟩
theorem Wj{is:List Int}{Q:PV->al->Prop}(j:is.length<64)(q:∀l:List Int,l.Perm is->l.Pairwise (·<=·)->Q (.d<|.lst<|l.map .int) O):aW c k (.builtin "sorted") [.d (.lst<|is.map .int)] O Q:= .mk λA B R s vs r S m=>by calc ai m.un λv g=>aw g λh p=>?_;clear g;subst h;calc aE (be.mT S.up p) λa items g=>aN g λh z C=>?_;clear g;clear m p;subst h;calc Ld S z (Jw C) j q
theorem RX{a:Addr}{is:List Int}{Q:PV->al->Prop}(z:O a=some (.lst<|is.map λi=> .d<|.int i))(h:is.length<64)(q:∀j:List Int,j.Perm is->j.Pairwise (·<=·)->Q (.d<|.lst<|j.map .int) O):aW c k (.builtin "sorted") [.ref a] O Q:= .mk λA B R s vs r S p=>by calc ai p.un λv g=>aw g λl C=>?_;clear g;clear p;subst l;rw[show v= .ref a from C];calc aE (S.lst z) λitems e g=>aw g λD H=>?_;have m:aT c.w B (is.map .int) items.toList:=bC.uN (by rw[bg];calc H);calc Ld S ⟨_,D,rfl,e,rfl⟩ (Jw m) h q
end
section
structure gV{α:Type}(lt:α->α->Bool)(P:α->Prop):Prop where
 fX:∀x,P x->lt x x=false
 tr:∀x y z,P x->P y->P z->lt x y=true->lt y z=true->lt x z=true
 kR:∀x y,P x->P y->x≠y->lt x y=true\/lt y x=true
theorem gV.as{α:Type}{lt:α->α->Bool}{P:α->Prop}(S:gV lt P){x y:α}(g:P x)(hy:P y)(h:lt x y=true):lt y x=false:=by
 cases e:lt y x with
 |false=>rfl
 |true=>have:=S.tr x y x g hy g h e;rw[S.fX x g] at this;calc ek this
theorem gV.le{α:Type}{lt:α->α->Bool}{P:α->Prop}(S:gV lt P){x y z:α}(l:P x)(hy:P y)(hz:P z)(h1:lt y x=false)(j:lt z y=false):lt z x=false:=by
 cases e:lt z x with
 |false=>rfl
 |true=>
  by_cases g:z=y
  .rw[g,h1] at e;exact ek e
  .by_cases h:y=x
   .rw[<-h,j] at e;exact ek e
   .rcases S.kR z y hz hy g with a|a
    .rw[j] at a;exact ek a
    .have:=S.tr y z x hy hz l a e;rw[h1] at this;calc ek this
theorem gV.mono{α:Type}{lt:α->α->Bool}{P Q:α->Prop}(S:gV lt P)(f:∀x,Q x->P x):gV lt Q:=⟨λx h=>S.fX x<|f x h,λx y z h h' g=>S.tr x y z (f x h) (f y h')<|f z g,λx y h h'=>S.kR x y (f x h)<|f y h'⟩
theorem Nn{α:Type}{f:α->Dt}{R:α->α->Prop}[∀a b,Decidable (R a b)](e:∀a b,iI (f a) (f b)=decide (R a b))(fX:∀a,¬R a a)(tr:∀a b c,R a b->R b c->R a c)(kR:∀a b,a≠b->R a b\/R b a):gV iI λd=>∃n,d=f n where
 fX:=λx h=>ai h λn q=>by rw[q,e];exact decide_eq_false<|fX n
 tr:=λx y z h h' g=>ai h λa q=>ai h' λb j=>ai g λc l=>by rw[q,j,l,e,e,e];exact λx y=>decide_eq_true<|tr a b c (of_decide_eq_true x)<|of_decide_eq_true y
 kR:=λx y h h'=>ai h λa q=>ai h' λb j=>by rw[q,j,e,e];calc λn=>(kR a b λx=>n<|x▸rfl).imp decide_eq_true decide_eq_true
theorem Li:gV iI λd=>∃n,d= .int n:=Nn (λZ Z=>rfl) Int.lt_irrefl (λZ Z Z=>Py) λZ Z=>Int.lt_or_gt_of_ne
theorem Vm(a b:Str)(n:a≠b):a.cps.toList<b.cps.toList\/b.cps.toList<a.cps.toList:=gX λh=>n<|congrArg Str.mk<|O8.mp<|List.le_antisymm (List.not_lt.mp λx=>h<|.inr x)<|List.not_lt.mp λx=>h<|.inl x
theorem Qj:gV iI λd=>∃n,d= .str n:=Nn (λZ Z=>rfl) (λZ=>List.lt_irrefl _) (λZ Z Z=>List.lt_trans) Vm
theorem Nf{P:Dt->Prop}(S:gV iI P){x y z:Dt}{a b d:List Dt}(m:P x)(hy:P y)(hz:P z)(p:cV a b=true->cV b d=true->cV a d=true):cV (x::a) (y::b)=true->cV (y::b) (z::d)=true->cV (x::a) (z::d)=true:=by
 rw[kW,kW,kW];by_cases l:x=y
 .rw[l,if_pos rfl];by_cases g:y=z
  .rw[if_pos g,if_pos g];exact p
  .rw[if_neg g,if_neg g];exact λZ h=>h
 .rw[if_neg l];by_cases g:y=z
  .rw[<-g,if_neg l];exact λh Z=>h
  .rw[if_neg g];intro h1 q;have j:=S.tr _ _ _ m hy hz h1 q;have n:¬x=z:=λe=>rK<|(S.fX z hz).symm.trans<|e▸j;rw[if_neg n];calc j
theorem Lz{P:Dt->Prop}(S:gV iI P){x y:Dt}{a b:List Dt}(j:P x)(hy:P y)(l:a≠b->cV a b=true\/cV b a=true)(h:x::a≠y::b):cV (x::a) (y::b)=true\/cV (y::b) (x::a)=true:=by
 rw[kW,kW];by_cases g:x=y
 .rw[if_pos g,if_pos g.symm];exact l λe=>h<|by rw[g,e]
 .rw[if_neg g,if_neg λe=>g e.symm];calc S.kR _ _ j hy g
theorem Md{x:Dt}{a:List Dt}(h:cV a a=false):cV (x::a) (x::a)=false:=(kW ..).trans<|(if_pos rfl).trans h
theorem RA:gV cV λl=>l=[]:=⟨λx h=>(show x=[] from h)▸rfl,λx y Z h h' Z e Z=>by rw[h,h'] at e;calc ek e,λx y h h' n=>absurd ((show x=[] from h).trans (show y=[] from h').symm) n⟩
theorem FF{P:Dt->Prop}{T:List Dt->Prop}(S:gV iI P)(R:gV cV T):gV cV λl=>∃x r,l=x::r/\P x/\T r where
 fX:=λl h=>aE h λx r q=>aN q λe _ p=>by rw[e];exact Md<|R.fX _ p
 tr:=λl m n h h' D=>aE h λx r q=>aN q λe H p=>aE h' λU X I=>aN I λJ g j=>aE D λY Z L=>aN L λN z C=>by rw[e,J,N];exact Nf S H g z<|R.tr _ _ _ p j C
 kR:=λl m h h'=>aE h λx r q=>aN q λe H p=>aE h' λU X I=>aN I λJ g j=>by rw[e,J];calc Lz S H g<|R.kR _ _ p j
theorem nI{P:Dt->Prop}{x:Dt}{l:List Dt}(h:∀d∈x::l,P d):P x/\∀d∈l,P d:=mZ.mp h
theorem Lc{P:Dt->Prop}(S:gV iI P):gV cV λl=>∀d∈l,P d where
 fX:=λx g=>by
  induction x with
  |nil=>rfl
  |cons a x j=>exact Md<|j (nI g).2
 tr:=λx=>by
  induction x with
  |nil=>
   intro y z _ _ _ h1 m;cases z with
   |nil=>cases y<;>calc ek<|by assumption
   |cons _ _=>rfl
  |cons x a j=>
   intro y z g hy hz h1 m;cases y with
   |nil=>calc ek h1
   |cons y b=>cases z with
    |nil=>calc ek m
    |cons z d=>exact Nf S (nI g).1 (nI hy).1 (nI hz).1 (j b d (nI g).2 (nI hy).2 (nI hz).2) h1 m
 kR:=λx=>by
  induction x with
  |nil=>
   intro y _ _ h;cases y with
   |nil=>calc absurd rfl h
   |cons _ _=>calc .inl rfl
  |cons x a j=>
   intro y g hy h;cases y with
   |nil=>calc .inr rfl
   |cons y b=>calc Lz S (nI g).1 (nI hy).1 (j b (nI g).2 (nI hy).2) h
theorem IK{T:List Dt->Prop}(R:gV cV T):gV iI λd=>∃l,d= .tup l/\T l where
 fX:=λx h=>ai h λl q=>by rw[q.1];exact R.fX _ q.2
 tr:=λx y z h h' m=>ai h λl q=>ai h' λp g=>ai m λr j=>by rw[q.1,g.1,j.1];exact R.tr l p r q.2 g.2 j.2
 kR:=λx y h h'=>ai h λl q=>ai h' λp g=>by rw[q.1,g.1];calc λn=>R.kR l p q.2 g.2 λe=>n<|e▸rfl
noncomputable def mw(l:List Dt):Prop:=∃n g ns,l=[.int n,.tup g,.tup ns]/\(∀d∈g,∃a,d= .str a)/\(∀d∈ns,∃a,d= .int a)
theorem Am:gV cV mw:=(FF Li<|FF (IK<|Lc Qj)<|FF (IK<|Lc Li) RA).mono λl h=>gz h λn g ns q=>bv _ _<|aR q.1 ⟨n,rfl⟩<|bv _ _<|aR rfl ⟨g,rfl,q.2.1⟩<|bv _ _<|aR rfl ⟨ns,rfl,q.2.2⟩ rfl
theorem FJ{a b:List Dt}(h:∀x∈a,∀y∈b,oi x y):pC a b:=by
 induction a generalizing b with
 |nil=>cases b<;>calc trivial
 |cons x a g=>cases b with
  |nil=>calc trivial
  |cons y b=>calc⟨λZ=>g λu j v l=>h u (dw _ j) v<|dw _ l,λZ=>h x dC y dC⟩
theorem Le{a b:List Dt}(h1:mw a)(j:mw b):pC a b:=by calc gz h1 λn D ns q=>gz j λm H ms r=>aN q λe l p=>aN r λg z C=>?_;rw[e,g];calc⟨λZ=>⟨λZ=>⟨λZ=>trivial,λZ=>FJ λx h y hy=>ai (p x h) λZ e=>ai (C y hy) λZ g=>e▸g▸trivial⟩,λZ=>FJ λx h y hy=>ai (l x h) λZ e=>ai (z y hy) λZ g=>e▸g▸trivial⟩,λZ=>trivial⟩
end
section
variable{c:Cx}{k:Nat}{V:Env}{O:al}{ρ:az}
theorem getD_list{α:Type}{l:List α}{i:Nat}{d:α}(h:i<l.length):l.getD i d=l[i]:=by simp[h]
theorem Fh{ds:List Dt}{vs:List Value}(r:aT w B ds vs){i:Nat}(h:i<ds.length):be w B (ds.getD i .none) (vs.getD i .none):=by have j:=r.length;calc ai (r.get<|cR h) λu g=>aw g λl m=>?_;rw[getD_list h,getD_list ((ax 30894528083) h j)];rw[cR (by calc(ax 30894528083) h j)] at l;rw[gn l];calc m
theorem Wy(r:aT w B ds vs):∀(l:List Nat),(∀i∈l,i<ds.length)->aT w B (l.map λi=>ds.getD i .none) (l.map λi=>vs.getD i .none):=by
 intro g;induction g with
 |nil=>
  calc λZ=>rfl
 |cons i l m=>
  calc λh=>⟨_,_,rfl,Fh r<|h i dC,m λj hj=>h j<|dw _ hj⟩
theorem Ng{α:Type}(l:List α)(d:α):(cS l.length).map (λi=>l.getD i d)=l:=by
 apply yO;intro i;rw[dm];by_cases h:i<l.length
 .rw[cR h,M4 h,wE,getD_list h]
 .rw[qp (by simpa using h),qp (by simpa using h)];rfl
noncomputable def byKey(key:Dt->List Dt)(ds:List Dt)(i j:Nat):Bool:=cV (key<|ds.getD i<|ds.headD .none)<|key<|ds.getD j<|ds.headD .none
theorem Wa{key:Dt->List Dt}(j:ds≠[])(hk:∀d∈ds,mw<|key d):Wk (byKey key ds):=by
 have l:∀i,ds.getD i (ds.headD .none)∈ds:=λi=>by
  by_cases h:i<ds.length
  .rw[getD_list h];exact gJ _
  .have e:ds.getD i (ds.headD .none)=ds.headD .none:=by simp[lX.mp h]
   rw[e];cases ds with
   |nil=>calc absurd rfl j
   |cons d ds=>exact dC
 have g:∀i,mw (key<|ds.getD i<|ds.headD .none):=λi=>hk _<|l i;calc⟨λa b c h1 m=>Am.le (g a) (g b) (g c) h1 m,λa b h=>Am.as (g a) (g b) h⟩
theorem B5{key:Dt->List Dt}{ds:List Dt}{p:Array Nat}(hp:Pm p ds.length)(q:Up (byKey key ds) p ds.length):(p.toList.map λi=>ds.getD i .none).Perm ds/\(p.toList.map λi=>ds.getD i .none).Pairwise λx y=>cV (key y) (key x)=false:=by
 refine⟨?_,?_⟩
 .have:=hp.map λi=>ds.getD i .none;rwa [Ng] at this
 .rw[H4]
  intro i j hi hj g;have hz:=hp.size;simp only[au,cu] at hi hj;have:=q i j (lV g)<|yb hz hj;unfold byKey at this;have e:∀a (h:a<p.size),p.getD a 0=p[a]:=λa h=>by unfold pi;rw[dif_pos h];rfl
  have l:p[i]'hi<ds.length:=by have:=hp.lt (i:=i)<|yb hz hi;rwa [e i hi] at this
  have m:p[j]'hj<ds.length:=by have:=hp.lt (i:=j)<|(aV 0x73163575a751) hz hi hj;rwa [e j hj] at this
  rw[e i hi,e j hj,getD_list l,getD_list m] at this;simp only[nY,Array.getElem_toList];rw[getD_list l,getD_list m];calc this
theorem ZR{R:Look}{a fn K:Addr}{key:Dt->List Dt}(r:cP k A)(Z:a≠K):∀(ds:List Dt) {done:List Dt} {B:Look} {s:aA} {vs:List Value} {g:Array Value} {e:Nat} {f:Value->PUnit->Sem (ForInStep PUnit)} {Q:PUnit->aA->Prop} (_:∀x u T s,ao (aO c.prog c.w) A (call (.ref fn) [x]) (λv s'=>ao (aO c.prog c.w) A (uu K (·.push v)) (λ_ D=>T (.yield ⟨⟩) D) EF s') EF s->ao (aO c.prog c.w) A (f x u) T EF s),(∀d∈ds,aW c k (.ref fn) [.d d] O λp ah=>p= .d (.tup<|key d)/\ah=O)->Sat c B O ((R.set a<|cA "list" #[] e1).set K<|cA "list" g e) s->R a=none->R K=none->aT c.w B ds vs->aT c.w B (done.map λd=> .tup<|key d) g.toList->small (done.length+ds.length)->(∀B' s' h H,B.le B'->Sat c B' O ((R.set a<|cA "list" #[] e1).set K<|cA "list" h H) s'->aT c.w B' ((done++ds).map λd=> .tup<|key d) h.toList->Q ⟨⟩ s')->ao (aO c.prog c.w) A (forIn vs CD f) Q EF s:=by
 intro ds;induction ds with
 |nil=>
  intro done B s vs g e f Q hf hc S U X I j hs q;rw[show vs=[] from I,Cn];calc ap<|q B s g e (Look.le_refl B) S<|by rw[ea];calc j
 |cons d ds ih=>
  intro done B s vs g e f Q hf hc S U X I j hs q;obtain⟨v,a0,ev,rd,J⟩:=I;subst ev;rw[qs];calc af<|hf _ _ _ _<|aS ((hc d dC).1 A B _ s [v] r S<|.one (p:= .d d) rd) (λu s₁ h₁=>?_) λ_ _ x=>x;obtain⟨Y,L,p,l₁,m,C,rfl,rfl⟩:=h₁;have hg:s₁.heap.get? K=some (cA "list" g e):=m.fr _ _<|eE ..;have hz:g.size=done.length:=by have:=j.length;rw[cu,au] at this;exact this
  simp only[bP] at hs;calc wG hg rfl ?_ (by rw[hz,dO];calc(ax 0x21af1205f4c1615) hs hz) (by show(g.push u).size<=_;rw[ua,hz,dO];calc(ax 0x2481afb205f4c1615) hs hz);have N:(s₁.heap.update K (dc (·.push u))).get? K=some (cA "list" (g.push u)<|e+1):=by rw[fK _ hg (by rw[qz];rfl),qz]
  have z:=m.xJ (eE ..) (dA s₁.heap K (dc (·.push u))) N;have eR:(((R.set a<|cA "list" #[] e1).set K<|cA "list" g e).set K<|cA "list" (g.push u)<|e+1)=(R.set a<|cA "list" #[] e1).set K (cA "list" (g.push u)<|e+1):=by funext b;unfold Look.set;split<;>rfl
  rw[eR] at z;refine ih (done:=done++[d]) hf (λd' P=>hc d'<|dw _ P) z U X (aT.mono l₁ J) ?_ (by rw[bA];simp;calc(ax 0x205f43b205f4c1615) hs hz) λB' s' h H l' S' l=>q B' s' h H (Look.le_trans l₁ l') S' ?_
  .rw[cb,kH];exact(aT.mono l₁ j).append ⟨u,[],rfl,C,rfl⟩
  .rw[eK] at l;calc l
theorem QW{B R:Look}{s:aA}{a fn:Addr}{ds:List Dt}{vs:List Value}{key:Dt->List Dt}{P:CI->aA->Prop}(r:cP k A)(S:Sat c B O R s)(ho:s.heap.get? a=some (cA "list" vs.toArray n))(hB:B a=none)(b5:O a=none)(hR:R a=none)(rv:aT c.w B ds vs)(J:ds.length<64)(hc:∀d∈ds,aW c k (.ref fn) [.d d] O λp ah=>p= .d (.tup<|key d)/\ah=O)(hk:∀d∈ds,mw (key d)/\Dt.keys (key d)=true/\Dt.dG (key d)<=20)(h:∀B' s' (b6:List Dt) (out:List Value) (m:Nat),B.le B'->Sat c B' O R s'->s'.heap.get? a=some (cA "list" out.toArray m)->aT c.w B' b6 out->B' a=none->b6.Perm ds->b6.Pairwise (λx y=>cV (key y) (key x)=false)->P (.done<|.ret .none) s'):ao (aO c.prog c.w) A (jd.«list.sort» ⟨[.ref a],[(ak "key",.ref fn)]⟩) P EF s:=by
 rw[ksk_t1];have g:=rv.length;have Z:vs.toArray.size<=ly:=by rw[rX,dO];exact(aq 592574257509937) J g
 calc af<|Cz ho rfl<|af<|wJ ho rfl (ai (⟨_,yR ho λ_=>#[]⟩:∃e1,(s.heap.update a<|dc λ_=>#[]).get? a=some (cA "list" #[] e1)) λe1 a9=>?_) Z (by show(#[]:Array Value).size<=_;simp);refine af<|CF a9 rfl<|af<|Hx (af<|HG (co ?_)<|by rw[dO];simp)<|by simpa using Z
 have b2:Sat c B O R {s with heap:=s.heap.update a<|dc λ_=>#[]}:=S.keep rfl rfl λb o e hb=>(dA ..).extBut b o (λhh=>by
  clear ho h a9;subst hh;rcases hb with hb|hb|⟨m,hb⟩
  .rw[hB] at hb;exact bp hb
  .rw[hR] at hb;exact bp hb
  .rw[b5] at hb;calc bp hb) e
 have a0:=b2.rest (a:=a) hB a9;rw[rM b5] at a0;have b3:=a0.push<|cA "tuple" vs.toArray 0;have U:=b3.extra (o:=cA "list" #[] 0) rfl;show ao (aO c.prog c.w) A (ksk_rest a (.ref fn) false vs.toArray e1<|.ref ((s.heap.update a<|dc λ_=>#[]).push<|cA "tuple" vs.toArray 0).objs.size) P EF _;generalize b7:((s.heap.update a<|dc λ_=>#[]).push<|cA "tuple" vs.toArray 0).objs.size=K at U|-;have ha: @zo Nat _ a s.heap.objs.size:=fN ho;have b0:K=s.heap.objs.size+1:=by rw[<-b7,hV,R0]
 have X:a≠K:=eg<|(ax 0xd631751603f3) ha b0;have b8:R K=none:=S.pG<|gA _<|(aq 2299571) b0;have c7:B K=none:=S.qK<|gA _<|(aq 2299571) b0;have L:Sat c B O ((R.set a<|cA "list" #[] e1).set K<|cA "list" #[] 0) {s with heap:=((s.heap.update a<|dc λ_=>#[]).push<|cA "tuple" vs.toArray 0).push<|cA "list" #[] 0}:=U;calc af<|fq<|af ?_;rw[<-GO];refine ZR (key:=key) r X ds (done:=[]) (λx u Q' s hh=>af<|nZ<|aS hh (λv s' hv=>af<|aS hv (λ_ a1 hq=>ap hq) λ_ _ x=>x) λ_ _ x=>x.elim) hc L hR b8 rv rfl (by simp;calc(aq 569484513318419) J g) λB' s' H e l' S' a2=>?_
 .rw[S6] at a2;have b9:s'.heap.get? K=some (cA "list" H e):=S'.fr _ _<|eE ..;have xA:s'.heap.get? a=some (cA "list" #[] e1):=S'.fr _ _ (by unfold Look.set;rw[if_neg X,if_pos rfl]);refine af<|Cz b9 rfl ?_
  have c0:B' a=none:=by
   cases q:B' a with
   |none=>rfl
   |some o=>have:=S'.br _ _ q;unfold Look.set at this;rw[if_neg X,if_pos rfl] at this;exact cU this
  have c1:B' K=none:=by
   cases q:B' K with
   |none=>rfl
   |some o=>have:=S'.br _ _ q;rw[eE] at this;exact cU this
  have c2:O K=none:=S'.rm _ _<|eE ..
  have SR:Sat c B' O R s':=S'.sC λb o e=>by
   unfold Look.set;by_cases h1:b=K
   .rw[h1,b8] at e;exact bp e
   .rw[if_neg h1];by_cases Y:b=a
    .rw[Y,hR] at e;exact bp e
    .rw[if_neg Y];exact e
  have I:H.size=ds.length:=by have:=a2.length;rw[cu,au] at this;exact this
  have b1:vs.toArray.size=ds.length:=by rw[rX,g]
  have c8:=aT.mono l' rv
  have fin:∀(st:bB) (p:Array Nat),pq st=none->(arrOf st).map (·.2)=Cq (p.toList.map λi=>vs.getD i ga)->Pm p ds.length->Up (byKey key ds) p ds.length->
    ao (aO c.prog c.w) A (ksk_tail a false e1 (.ref K) st) P EF s':=λst p hf a3 hp hu=>by
   unfold ksk_tail
   dsimp only
   rw[a3]
   refine af<|wJ b9 rfl ?_ (by rw[I,dO];calc(ax 0x21af1721f1613615) J g I)<|by simp
   have a5:(s'.heap.update K<|dc λ_=>#[]).get? a=some (cA "list" #[] e1):=(dA ..).extBut a _ X xA
   refine af<|CE<|af<|CF a5 rfl ?_
   have c3:(p.toList.map λi=>vs.getD i ga).length=ds.length:=by rw[au,cu,hp.size]
   refine af<|wJ a5 rfl ?_ (by simp)<|by rw[rX,c3,dO];exact(aV 0x2481af1721f161361561a) J g I c3
   rw[hf]
   rw[if_neg (kL)]
   have a6:=yR a5 λ_=>Cq<|p.toList.map λi=>vs.getD i ga
   refine aw (B5 hp hu) λc9 d0=>ap<|h B' _ _ _ _ l' (SR.keep rfl rfl λb o e hb=>?_) a6 (Wy c8 p.toList λi hi=>eM.mp<|hp.mem_iff.mp hi) c0 c9 d0
   .refine(dA ..).extBut b o (λhh=>?_)<|(dA ..).extBut b o (λhh=>?_) e
    .clear xA S' ho b3 a5 b2 ha hB U X a6 a0 L h a9 b7;subst hh;rcases hb with hb|hb|⟨m,hb⟩
     .rw[c0] at hb;exact bp hb
     .rw[hR] at hb;exact bp hb
     .rw[b5] at hb;exact bp hb
    .clear S' b0 c7 a5 U X a6 L b9 b7;subst hh;rcases hb with hb|hb|⟨m,hb⟩
     .rw[c1] at hb;exact bp hb
     .rw[b8] at hb;exact bp hb
     .rw[c2] at hb;exact bp hb
  unfold ksk_end;simp only[OC,if_false];by_cases Y:vs.toArray.size<2
  .rw[if_pos Y,if_pos Y]
   calc af<|ap ?_;rw[N2];calc af<|ap ?_;have a7:vs.length<2:=by simpa using Y
   refine fin _ (Cq<|cS ds.length) rfl ?_ (ub _) λx y c4 hy=>?_
   .show(H.zip vs.toArray).map (·.2)=_
    apply O8.mp;rw[O7];have e1:(H.zip vs.toArray).toList.map (·.2)=vs:=by rw[show(H.zip vs.toArray).toList=H.toList.zip vs by simp];exact R3<|show vs.length<=H.toList.length from fO<|g.trans<|I.symm.trans cu.symm
    rw[e1];have:=Ng vs ga;rw[g] at this;simpa using this.symm
   .have d1:x=0:=(dB [_,_,_,_,_,_] 0x6e1721f363563a6300f704f00f207f17307f) J g I b1 Y c4 hy;have d2:y=0:=(dB [_,_,_,_,_] 0x6e1721f363563a6300f704f00f731) J g I b1 Y hy;subst d1;clear c4;subst d2
    have h0:((cS ds.length).toArray).getD 0 0=0:=by
     unfold pi;split
     .simp
     .rfl
    rw[h0];have hd:ds.getD 0 (ds.headD .none)∈ds:=by rw[getD_list ((aB 7464734) hy)];exact gJ _
    exact Am.fX _ (hk _ hd).1
  .rw[if_neg Y,if_neg Y];have a7:2<=ds.length:=(dB [_,_,_,_] 0x2104f721f161361561ad704fa) J g I b1 Y
   have c5:Rows (ds.map key):=by
    refine⟨λl hl=>?_,λl hl=>?_,.inr λl hl=>?_,λl hl m hm=>?_⟩
    .refine ai (bb.mp hl) λd z=>aw z λhd D=>?_;clear z;clear hl;subst D;exact(hk d hd).2.1
    .refine ai (bb.mp hl) λd z=>aw z λhd D=>?_;clear z;clear hl;subst D;exact(hk d hd).2.2
    .refine ai (bb.mp hl) λd z=>aw z λhd D=>?_;clear z;clear hl;subst D;obtain⟨n,ss,ns,e,_⟩:=(hk d hd).1;exact bv n _ e
    .refine ai (bb.mp hl) λd z=>aw z λhd D=>?_;clear z;clear hl;subst D;calc ai (bb.mp hm) λd' z=>aw z λd3 D=>?_;clear z;clear hm;subst D;exact Le (hk d hd).1 (hk d' d3).1
   have N:aT c.w B' ((ds.map key).map .tup) H.toList:=by rw[bg];exact a2
   have T:=Gg (prog:=c.prog) (A:=A) (s:=s') c5 (by rw[au];calc a7) (λb o e=>S'.fb b o e) N;rw[yJ] at T;calc af<|aS T (λd6 a1 e=>aw e λz D=>?_) λ_ _ x=>x;clear e;subst z;subst D;have b4:∀i j C,i<ds.length->j<ds.length->C (byKey key ds i j) a1->kas_ask c.prog c.w A (wV true) H.toList i j C a1:=λi j C hi hj hC=>by have ri:=Fh N (i:=i) (by simpa using hi);have rj:=Fh N (i:=j) (by simpa using hj);rw[getD_list (by simpa using hi)] at ri;rw[getD_list (by simpa using hj)] at rj;simp only[nY] at ri rj;have mi:ds[i]∈ds:=gJ _;have mj:ds[j]∈ds:=gJ _;calc aN (hk _ mi) λki di ei=>aN (hk _ mj) λkj dj ej=>?_;have a8:=Le ki kj;obtain⟨n1,d7,d8,q1,_⟩:=ki;obtain⟨n2,d9,e0,q2,_⟩:=kj;unfold byKey at hC;rw[getD_list hi,getD_list hj] at hC;have hu:=r.units;rw[q1] at ri di ei a8 hC;rw[q2] at rj dj ej a8 hC;exact DA (.inr<|bv n1 n2 ⟨rfl,rfl⟩) di dj a8 ((aV 0x75404f431226f325423f422fa1) ei hu) (be.mono S'.fb ri) (be.mono S'.fb rj) hC
   have W:Wk (byKey key ds):=Wa (λe=>by rw[e] at a7;simp at a7) λd hd=>(hk d hd).1;refine af (aS (kat_run (E:=EF) (A:=A) (κ:=wV true) (ks:=H.toList) (vs:=vs) (Q:=λst s3=>s3=a1/\pq st=none/\∃p:Array Nat,(arrOf st).map (·.2)=Cq (p.toList.map λi=>vs.getD i ga)/\Pm p ds.length/\Up (byKey key ds) p ds.length) (G:=λp s3=>s3=a1/\Pm p ds.length/\Up (byKey key ds) p ds.length) (by rw[cu,I,g]) (by rw[g];calc a7) (by rw[g];calc J) (λp e4 s3 hz a3 hf hG=>?_) ?_) (λrr s3 hh=>?_) λ_ _ x=>x)
   .exact aR hG.1 hf ⟨p,⟨kat_snds (by rw[cu,I,g]) a3,hG.2⟩⟩
   .rw[g];exact Ye W b4 ((dB [_,_,_,_] 0x218721f161361561ad704fa) J g I b1 Y) λp' d4 d5=>aR rfl d4 d5
   .refine aN hh λz hf D=>ai D λp c6=>aN c6 λa3 hp hu=>?_;clear D c6 hh;clear b4 T;subst z;calc fin rr.2 p hf a3 hp hu
theorem cP.Qv(r:cP (k+1) A):cP k A.in1.in1:=by
 refine⟨r.handled,?_,?_⟩
 .show A.depth+k<=690;exact(aq 9710075252307137) r.depth
 .show A.units+1+1+8*k+60<=dP;calc(ax 0x25423f422f348b25423f422fc1) r.units
structure Gi(c:Cx)(k:Nat)(p:PV)(fn:Addr)(O:al)(Q:PV->al->Prop):Prop where
 go:∀A B R s v,cP k A->Sat c B O R s->RV c.w B p v->ao (aO c.prog c.w) A (call (.builtin "sorted") [v] [(ak "key",.ref fn)]) (gc c Q B R) EF s
inductive Xe (c:Cx) (k:Nat) (px:PV) (Q:PV->al->Prop) (p:PV) (O:al):Prop
 |mk (fn:Addr) (e:p= .ex (.ref fn)) (h:Gi c k px fn O Q)
@[reducible] noncomputable def Qy (c:Cx) (k:Nat) (V:Env) (ρ:az) (key:Expr) (Q:PV->al->Prop):PV->al->Prop:=λg O=>WE c k V ρ key O<|Xe c k g Q
inductive Xg (c:Cx) (k:Nat) (V:Env) (ρ:az) (x key:Expr) (Q:PV->al->Prop) (p:PV) (O:al):Prop
 |mk (e:p= .ex (.builtin "sorted")) (h:WE c k V ρ x O<|Qy c k V ρ key Q)
theorem Mc(he:eval (.Call f [x] [⟨some "key",key,j⟩] g) V=(eval f V>>=λv=>nv g v [] (backTo g<|starEach [x] V)<|backToKw g<|keywordEach [⟨some "key",key,j⟩] V))(hs:starEach [x] V=[(false,eval x V)])(h:WE c k V ρ f O<|Xg c k V ρ x key Q):WE c k V ρ (.Call f [x] [⟨some "key",key,j⟩] g) O Q:= .mk λA B R s r S L=>by rw[he];calc af<|aS (h.1 A B R s r S L) (λv s₁ h₁=>?_) λ_ _ x=>x;obtain⟨p,a2,pf,l₁,q,z,rfl,C⟩:=h₁;rw[show v= .builtin "sorted" from z,hs];calc wQ (P:=c.K.In) rfl (λhp X=>(Callee.bi (c:=c)).keeps hp X) ?_;show ao _ _ (evalArgs (.builtin "sorted") true ((false,eval x V)::[])<|backToKw g<|keywordEach [⟨some "key",key,j⟩] V) _ _ s₁;calc evalArgs_kw rfl ?_;show ao _ _ (eval x V>>=λv=>pure [v]>>=λhere=>gL here (uB [])>>=λrest=>pure<|here++rest) _ _ s₁;calc af<|aS (C.1 A p R s₁ r q<|L.mono l₁) (λvx s₂ D=>?_) λ_ _ x=>x;obtain⟨H,a3,px,l₂,I,J,N⟩:=D;calc af<|ap<|af<|co<|ap<|ap ?_;show ao _ _ (evalAll [do let v <-eval key V;ix g;pure v]) _ _ s₂;show ao _ _ ((do let v <-eval key V;ix g;pure v)>>=λv=>gL [v] (pure [])>>=λrest=>pure (v::rest)) _ _ s₂;calc af<|af<|aS (N.1 A H R s₂ r I<|L.mono<|Look.le_trans l₁ l₂) (λvk T U=>af<|hY<|ap ?_) λ_ _ x=>x;obtain⟨Y,a5,pk,l,m,Z,fn,rfl,a0⟩:=U;rw[show vk= .ref fn from Z];calc af<|co<|ap<|ap ⟨m.gy,aS (a0.1 A Y R T vx r m<|J.mono l) (λv a6 a1=>a1.up<|Look.le_trans l₁<|Look.le_trans l₂ l) λ_ _ x=>x⟩
theorem JG{A:cj}{s:aA}{v:Value}{ds:List Dt}{key:Dt->List Dt}{Q:PV->al->Prop}(r:cP (k+1) A)(S:Sat c B O R s)(l:Mq c A.in1 v s λvs s₁=>s₁.gens=s.gens/\s₁.os=s.os/\(∀b o,s.heap.get? b=some o->s₁.heap.get? b=some o)/\aT c.w B ds vs)(z:ds.length<64)(hc:∀d∈ds,aW c k (.ref fn) [.d d] O λp ah=>p= .d (.tup<|key d)/\ah=O)(hk:∀d∈ds,mw (key d)/\Dt.keys (key d)=true/\Dt.dG (key d)<=20)(q:∀g,g.Perm ds->g.Pairwise (λx y=>cV (key y) (key x)=false)->Q (.d<|.lst g) O):ao (aO c.prog c.w) A (call (.builtin "sorted") [v] [(ak "key",.ref fn)]) (gc c Q B R) EF s:=by calc call_function_entry_kw kind_sorted plain_sorted entry_sorted (ksk_s1 _ _) ?_;unfold jd.«sorted»;calc af (m:=checkCount "sorted" 1 1 _)<|ap<|af<|aS l (λvs s₁ h₁=>bV h₁ λhg D H J=>?_) λZ Z x=>x;calc af<|HG ?_ (by rw[dO];calc(aq 592574257509937) z J.length);have h:Sat c B O R s₁:=S.grow hg D H;have f:=h.fresh;have L:(s₁.heap.push<|cA "list" vs.toArray 0).get? s₁.heap.objs.size=some (cA "list" vs.toArray 0):=dy _ rfl;calc af<|co<|wpAny_call_entry_kw slot_list_sort ⟨_,L,rfl⟩ entry_list_sort (QW r.Qv (h.push<|cA "list" vs.toArray 0) L f.1 f.2.1 f.2.2 J z hc hk λB' s' g out m N P I T C hp hs=>⟨_,rfl,?_⟩)<|ksk_l1 _ _;have j:=P.rG C f.2.2 I;rw[rM f.2.1] at j;have le:=fW (B:=B') (a:=s₁.heap.objs.size) (o:=cA "list" out.toArray m) C;calc ap ⟨_,rfl,_,O,.d<|.lst g,Look.le_trans N le,j,⟨_,_,_,_,rfl,eE ..,rfl,rfl,aT.mono le T⟩,q g hp hs⟩
theorem VL{a fn:Addr}{l:List<|Dt×PV}{key:Dt->List Dt}{Q:PV->al->Prop}(C:O a=some (.aM l))(h:l.length<64)(hc:∀d∈l.map (·.1),aW c k (.ref fn) [.d d] O λp ah=>p= .d (.tup<|key d)/\ah=O)(hk:∀d∈l.map (·.1),mw (key d)/\Dt.keys (key d)=true/\Dt.dG (key d)<=20)(q:∀g,g.Perm (l.map (·.1))->g.Pairwise (λx y=>cV (key y) (key x)=false)->Q (.d<|.lst g) O):Gi c (k+1) (.ref a) fn O Q:= .mk λA B R s v r S H=>by rw[show v= .ref a from H];calc aE (S.aM C) λes ep j=>aN j λI D J=>JG r S (ID (r.handled) (S.vr C) I (by rw[td D];unfold small;calc(aB 139034305009) h) λs' hg m z=>cx hg m z D.a) (by rw[au];calc h) hc hk q
theorem WC{a fn:Addr}{ds:List Dt}{key:Dt->List Dt}{Q:PV->al->Prop}(D:O a=some (.lst<|ds.map .d))(j:ds.length<64)(hc:∀d∈ds,aW c k (.ref fn) [.d d] O λp ah=>p= .d (.tup<|key d)/\ah=O)(hk:∀d∈ds,mw (key d)/\Dt.keys (key d)=true/\Dt.dG (key d)<=20)(q:∀h,h.Perm ds->h.Pairwise (λx y=>cV (key y) (key x)=false)->Q (.d<|.lst h) O):Gi c (k+1) (.ref a) fn O Q:= .mk λA B R s v r S H=>by rw[show v= .ref a from H];calc aE (S.lst D) λitems e z=>aw z λI J=>?_;have m:=bC.uN J;have g:=m.length;rw[cu] at g;calc JG r S (collect_list (l:=a) (vs:=items.toList) ⟨_,I,rfl,e,by rw[yJ]⟩ (cx rfl rfl (λb o C=>?_) m)<|by rw[cu,g,dO];calc(aq 592574257501715) j g) j hc hk q;calc(dA ..).extBut b o (hZ<|fN C)<|bW _ C
end
section
noncomputable def jF(mask:Nat):Nat->Nat->Nat->Nat×Nat
 |0,i,p=>(i,p)
 |n+1,i,p=>jF mask n (qw mask i p).1 (qw mask i p).2
theorem Mi(mask:Nat):∀(m n i p:Nat),jF mask (m+n) i p=jF mask n (jF mask m i p).1 (jF mask m i p).2:=by
 intro g;induction g with
 |zero=>
  intro n i p;rw[np];rfl
 |succ m h=>
  intro n i p;rw[OE];calc h n _ _
theorem UR(mask:Nat):∀(n i p:Nat),(jF mask n i p).2=p/32^n:=by
 intro g;induction g with
 |zero=>
  calc λi p=>(Nat.div_one p).symm
 |succ n h=>
  intro i p;show(jF mask n _<|p/32).2=_;rw[h,Nat.div_div_eq_div_mul,Pu,Hz]
theorem YA(mask:Nat):∀(n i p:Nat),i<=mask->(jF mask n i p).1<=mask:=by
 intro g;induction g with
 |zero=>
  calc λi p h=>h
 |succ n j=>
  calc λi p h=>j _ _<|ng<|zd _<|ph _
noncomputable def YH:Bool:=(cS 8).all λi=>(cS 8).all λj=>(cS 8).any λn=>(jF 7 n i 0).1==j
noncomputable def Qp:Bool:=(cS 32).all λi=>(cS 32).all λj=>(cS 32).any λn=>(jF 31 n i 0).1==j
theorem Rh:YH=true:=by decide+kernel
theorem RN:Qp=true:=by decide+kernel
theorem KD(hm:mask=7\/mask=31)(hi:i<=mask)(hj:j<=mask)(hp:p<2^64):∃n,n+1<=pd mask/\(jF mask n i p).1=j:=by
 have h0:(jF mask 13 i p).2=0:=by rw[UR];exact Nat.div_eq_of_lt<|fL hp<|by decide
 have l:=YA mask 13 i p hi;rcases hm with rfl|rfl
 .have:=jb.mp (jb.mp Rh _<|eM.mpr<|oZ l) j<|eM.mpr<|oZ hj;calc ai (GZ.mp this) λn g=>?_;have h:=g.1;have e:=g.2;refine⟨13+n,?_,?_⟩
  .unfold pd;exact(aB 0x2440f09f484135f72ef1)<|eM.mp h
  .rw[Mi,h0];exact beq_iff_eq.mp e
 .have:=jb.mp (jb.mp RN _<|eM.mpr<|oZ l) j<|eM.mpr<|oZ hj;calc ai (GZ.mp this) λn g=>?_;have h:=g.1;have e:=g.2;refine⟨13+n,?_,?_⟩
  .unfold pd;exact(aB 0x2440f31f484135f743f1)<|eM.mp h
  .rw[Mi,h0];calc beq_iff_eq.mp e
theorem MN(h:Int):lT h<2^64:=by unfold lT;calc(Px<|Int.emod_nonneg _<|by decide).mpr<|Int.emod_lt_of_pos _<|by decide
noncomputable def lE(t:gr):Nat->sd->sd
 |0,p=>p
 |n+1,p=>lE t n<|t.advance p
theorem VU(t:gr):∀(m n:Nat) (p:sd),lE t (m+n) p=lE t n (lE t m p):=by
 intro g;induction g with
 |zero=>
  intro n p;rw[np];rfl
 |succ m h=>
  intro n p;rw[OE];calc h n _
noncomputable def uI(mask i g:Nat):sd:={j:=i,more:=wD mask i -i,i,perturb:=g,dummy:=none}
theorem UV(t:gr):∀(m:Nat) (p:sd),p.more=m->p.dummy=none->∃n,n<=m+1/\lE t n p=uI t.mask (qw t.mask p.i p.perturb).1 (qw t.mask p.i p.perturb).2:=by
 intro l;induction l with
 |zero=>
  calc λp h hd=>⟨1,bS _,?_⟩;show t.advance p=_;unfold Ow;rw[if_neg (by calc(aB 225568481) h)];unfold uI;simp only[hd]
 |succ m q=>
  calc λp h hd=>ai (q {p with j:=p.j+1,more:=p.more -1} (by show p.more -1=m;calc(aq 1670911681) h) hd) λn g=>?_;have r:=g.1;have e:=g.2;calc⟨n+1,by calc(aq 613200577) r,?_⟩;show lE t n (t.advance p)=_;have:t.advance p={p with j:=p.j+1,more:=p.more -1}:=by unfold Ow;rw[if_pos (by calc(aq 7464641) h)]
  rw[this];calc e
theorem Sq(mask i:Nat):wD mask i -i<=9:=by
 unfold wD;split
 .rw[BN];exact bS 9
 .rw[Nat.sub_self];calc cO 9
theorem Rb(t:gr):∀(k i g:Nat),∃n,n<=10*k/\lE t n (uI t.mask i g)=uI t.mask (jF t.mask k i g).1 (jF t.mask k i g).2:=by
 intro j;induction j with
 |zero=>
  calc λi g=>⟨0,bS _,rfl⟩
 |succ k l=>
  calc λi g=>ai (UV t _ (uI t.mask i g) rfl rfl) λn h=>?_;have p:=h.1;have e:=h.2;calc ai (l (qw t.mask i g).1 (qw t.mask i g).2) λm h=>?_;refine⟨n+m,?_,?_⟩
  .have:n<=10:=aL p (by show wD t.mask i -i+1<=10;calc(aq 0x232f4893122cf931)<|Sq t.mask i);exact(ax 0x22df03f43122df53232f1) h.1 this
  .rw[VU,e];calc h.2
noncomputable def Ends(t:gr)(n:Nat)(p:sd):Prop:=p.dummy=none/\t.slot (lE t n p).j= .empty/\∀m,m<n->t.slot (lE t m p).j≠ .empty
theorem A9(t:gr)(p:sd):(t.advance p).dummy=p.dummy:=by unfold Ow;split<;>rfl
theorem Ends.next(h:Ends t (n+1) p):Ends t n (t.advance p):=⟨(A9 t p).trans h.1,h.2.1,λm hm=>h.2.2 (m+1)<|by calc(aq 8173361) hm⟩
theorem QN(hd:p.dummy=none):∀(N:Nat),t.slot (lE t N p).j= .empty->∃n,n<=N/\Ends t n p:=λN=>by
 induction N using Cj with
 |ind N l=>
  intro h;by_cases hm:∃m,m<N/\t.slot (lE t m p).j= .empty
  .exact ai hm λm g=>aw g λhm e=>ai (l m hm e) λn g=>aw g λq E=>⟨n,by calc(ax 9419575889) hm q,E⟩
  .exact⟨N,bS _,hd,h,λm hm' e=>hm ⟨m,hm',e⟩⟩
noncomputable def Clean(t:gr):Prop:=t.dummies=#[]
theorem Ky(hc:Clean t)(j:Nat):(∃i,t.slot j= .live i/\t.place[i]? =some j)\/t.slot j= .empty:=by
 unfold N4;dsimp only;split
 .rename_i h;exact .inl ⟨_,rfl,by simpa using h⟩
 .rw[hc]
  have:Hv #[] j=false:=by unfold Hv;simp
  rw[this];calc .inr rfl
theorem sub_len:∀{l m:List Nat},l.Nodup->(∀x∈l,x∈m)->l.length<=m.length:=by
 intro g;induction g with
 |nil=>
  intro _ _ _;calc cO _
 |cons x l r=>
  intro m j h;rw[iM] at j;have q:=h x dC;have:=r (m:=m.erase x) j.2 λy hy=>by have p:y≠x:=λe=>j.1<|e▸hy;exact(List.mem_erase_of_ne p).mpr<|h y<|dw _ hy
  rw[List.length_erase_of_mem q] at this;simp only[bP];calc(aq 2453122781752) (by assumption)<|GB q
theorem TQ(hc:Clean t)(h:t.place.size<=t.mask):∃j,j<=t.mask/\t.slot j= .empty:=by
 refine gX λg=>?_
 have all:∀j∈cS (t.mask+1),j∈t.place.toList:=λj hj=>by
  rcases Ky hc j with⟨i,_,e⟩|e
  .rw[<-fj] at e;exact fZ e
  .exact absurd ⟨j,(ng<|eM.mp hj),e⟩ g
 have:=sub_len GX all;rw[lS,cu] at this;calc gm _<|(aq 33959383580) h this
theorem Zo(hc:Clean t)(h:t.place.size<=t.mask)(hm:t.mask=7\/t.mask=31)(x:Int):∃n,n+1<=10*pd t.mask/\Ends t n (t.probeStart x):=by
 calc ai (TQ hc h) λj g=>?_;have hj:=g.1;have e:=g.2;have h1:lT x%(t.mask+1)<=t.mask:=ng<|zd _<|ph _;calc ai (KD hm h1 hj<|MN x) λk g=>?_;have hk:=g.1;have l:=g.2;calc ai (Rb t k (lT x%(t.mask+1))<|lT x) λN g=>?_;have m:=g.1;have q:=g.2;have hs:t.probeStart x=uI t.mask (lT x%(t.mask+1)) (lT x):=rfl;have:t.slot (lE t N<|t.probeStart x).j= .empty:=by rw[hs,q];show t.slot (jF _ _ _ _).1=_;rw[l];exact e
 calc ai (QN (p:=t.probeStart x) rfl N this) λn g=>?_;have r:=g.1;have E:=g.2;calc⟨n,by calc(aV 0x22df3b2303f22df5a2a1) hk m r,E⟩
theorem VX(hc:Clean t):∀(g n:Nat) (p:sd),n+1<=g->Ends t n p->(∃j,BR t at_ x g p=some (.empty j none)/\t.slot j= .empty)\/(∃j i q m,BR t at_ x g p=some (.candidate j i q)/\t.slot j= .live i/\t.place[i]? =some j/\at_ i=x/\m<n/\Ends t m q):=by
 intro l;induction l with
 |zero=>
  calc λn p h Z=>absurd h<|gm _
 |succ g r=>
  intro n p h E;rw[show BR t at_ x (g+1) p=(match t.slot p.j with| .empty=>some (.empty p.j p.dummy)| .dummy=>BR t at_ x g (t.advance {p with dummy:=some p.j})| .live i=>if at_ i==x then some (.candidate p.j i<|t.advance p) else BR t at_ x g<|t.advance p) from rfl];rcases Ky hc p.j with⟨i,e,ep⟩|e
  .rw[e]
   dsimp only;cases n with
   |zero=>have:=E.2.1;rw[show(lE t 0 p)=p from rfl,e] at this;cases this
   |succ n=>
    by_cases hh:(at_ i==x)=true
    .rw[if_pos hh];exact .inr<|oG p.j i _ n<|tG rfl e ep (beq_iff_eq.mp hh) (pa _) E.next
    .rw[if_neg hh];rcases r n (t.advance p) (by calc(aq 598918283) h) E.next with h1|⟨j,i,q,m,h1,z,C,D,H,I⟩
     .exact .inl h1
     .exact .inr<|oG j i q m<|tG h1 z C D (by calc tA H) I
  .rw[e];dsimp only;rw[E.1];calc .inl ⟨p.j,rfl,e⟩
theorem insertAt_perm{α:Type}(xs:Array α)(p:Nat)(x:α):(iZ xs p x).toList.Perm (x::xs.toList):=by unfold iZ;rw[lq,kH,nW,nW,nU,nU,Hr,Nat.sub_zero,eK];have e:(xs.toList.drop p).take (xs.size -p)=xs.toList.drop p:=nV (by simp);rw[e];have t:=yI p xs.toList;calc BY R2<|yQ x ?_;show(xs.toList.take p++xs.toList.drop p).Perm _;rw[t]
theorem By{α:Type}(xs:Array α)(p:Nat)(x:α):(iZ xs p x).size=xs.size+1:=by simpa using((insertAt_perm xs p x).length_eq)
theorem IY{t:gr}(hc:Clean t)(j:Nat):(t.put j).1={t with place:=iZ t.place (ni t.place j) j}/\(t.put j).2=ni t.place j:=by
 unfold SetTable.put;have h:Hv t.dummies j=false:=by rw[hc];unfold Hv;simp
 dsimp only;rw[h];calc⟨rfl,rfl⟩
theorem NG{α m:Type}{f g:α->Option m}:∀{l:List α},(∀a∈l,f a=g a)->l.filterMap f=l.filterMap g:=by
 intro j;induction j with
 |nil=>
  calc λZ=>rfl
 |cons a l p=>
  intro h;rw[oX,oX,h a dC,p λb hb=>h b (dw _ hb)]
noncomputable def own(owner:Array<|Option Nat)(j:Nat):Option Nat:=owner.getD j none
theorem UM{owner:Array<|Option Nat}{j k:Nat}(hj:j<owner.size)(i:Nat):own (owner.setIfInBounds j<|some k) i=if i=j then some k else own owner i:=by
 unfold own
 have g:∀(xs:Array<|Option Nat) (i:Nat),xs.getD i none=(xs[i]?).getD none:=λxs i=>by
  unfold pi;split
  .rename_i h;rw[ct h];rfl
  .rename_i h;rw[qo (lX.mp h)];rfl
 rw[g,g,Array.getElem?_setIfInBounds];by_cases h:j=i
 .subst h;rw[if_pos rfl,if_pos hj,if_pos rfl];rfl
 .rw[if_neg h,if_neg λe=>h e.symm]
theorem NH{p:Type}{f:Nat->Option p}{j:Nat}{b:p}(h0:f j=none):∀{l:List Nat},l.Nodup->j∈l->(l.filterMap λi=>if i=j then some b else f i).Perm (b::l.filterMap f)
 |[],_,h=>nomatch h
 |i::l,m,h=>by
  rw[iM] at m;by_cases g:i=j
  .subst g
   have e:(l.filterMap λa=>if a=i then some b else f a)=l.filterMap f:=by apply NG;intro a r;rw[if_neg (by rintro rfl;calc m.1 r)]
   rw[oX,oX,if_pos rfl,h0];dsimp only;rw[e]
  .have hm:j∈l:=by
    rcases dD.mp h with e|h
    .exact absurd e.symm g
    .exact h
   have q:=NH (b:=b) h0 m.2 hm;rw[oX,oX,if_neg g];cases hf:f i with
   |none=>dsimp only;calc q
   |some c=>dsimp only;calc(yQ c q).trans<|Hc b c _
noncomputable def pH(mask:Nat)(owner:Array<|Option Nat):List Nat:=(cS<|mask+1).filterMap<|own owner
theorem Mp{mask:Nat}{owner:Array<|Option Nat}{g i j:Nat}{P:Option Nat->Prop}(h:∀k,(owner.getD (i+k)<|some 0).isNone=true->P (some<|i+k))(n:(∀k,k<wD mask i+1 -i->¬(owner.getD (i+k)<|some 0).isNone=true)->P (wt mask owner g (qw mask i j).1 (qw mask i j).2)):P (wt mask owner (g+1) i j):=by
 have key:∀o,(cS<|wD mask i+1 -i).find? (λk=>(owner.getD (i+k)<|some 0).isNone)=o->P (match o with|some k=>some (i+k)|none=>wt mask owner g (qw mask i j).1 (qw mask i j).2):=λo e=>by
  cases o with
  |some k=>calc h k<|wF (p:=λk=>(owner.getD (i+k)<|some 0).isNone) e
  |none=>exact n λk hk=>GP.mp e k<|eM.mpr hk
 calc key _ rfl
theorem Us{mask:Nat}{owner:Array<|Option Nat}(hz:owner.size=mask+1){j:Nat}(hj:j<=mask)(z:own owner j=none):∀(n g i l:Nat),n+1<=g->i<=mask->(jF mask n i l).1=j->∃s,wt mask owner g i l=some s/\s<=mask/\own owner s=none:=by
 have D:∀q,(owner.getD q<|some 0).isNone=true->q<=mask/\own owner q=none:=λq h=>by
  unfold own;unfold pi at h|-;split at h
  .rename_i H;rw[dif_pos H];exact⟨(ax 9419118417) hz H,by simpa using h⟩
  .simp at h
 intro n;induction n with
 |zero=>
  calc λg i l hf hi he=>ai (⟨g -1,(aB 0x64898112148e) hf⟩:∃m,g=m+1) λg p=>?_;clear hf;subst p;have C:i=j:=he;clear hj;subst C;refine Mp (P:=λr=>∃s,r=some s/\s<=mask/\own owner s=none) (λk hk=>⟨i+k,rfl,D _ hk⟩) λhk=>?_
  .refine(hk 0 (R1<|by unfold wD;split;calc oZ<|kI _ 9;calc pa _) ?_).elim;have h1:i<owner.size:=(aV 0x731603f325161a) hz hi he;unfold own at z;unfold pi at z|-;rw[dif_pos h1] at z;rw[dif_pos h1];simpa using z
 |succ n I=>
  calc λg i l hf hi he=>ai (⟨g -1,(aq 0x64898112148c) hf⟩:∃m,g=m+1) λg p=>?_;subst p;calc Mp (P:=λr=>∃s,r=some s/\s<=mask/\own owner s=none) (λk hk=>⟨i+k,rfl,D _ hk⟩) λZ=>I g _ _ ((aq 598918283) hf) (ng<|zd _<|ph _) he
theorem UF{mask:Nat}{owner:Array<|Option Nat}(h:(pH mask owner).length<=mask):∃j,j<=mask/\own owner j=none:=by
 refine gX λg=>?_
 have all:∀j∈cS (mask+1),(own owner j).isSome:=λj hj=>by
  cases e:own owner j with
  |some v=>rfl
  |none=>exact absurd ⟨j,ng<|eM.mp hj,e⟩ g
 have:(pH mask owner).length=mask+1:=by
  unfold pH
  have gen:∀(l:List Nat),(∀j∈l,(own owner j).isSome)->(l.filterMap<|own owner).length=l.length:=by
   intro l;induction l with
   |nil=>intro _;rfl
   |cons a l m=>
    calc λh=>ai (BK.mp<|h a dC) λv p=>?_;rw[oX,p];simp[m λj hj=>h j (dw _ hj)]
  rw[gen _ all,lS]
 calc gm _<|(aq 33959384769) h this
theorem Sr{mask:Nat}(hm:mask=7\/mask=31):∀(hs:List Int) (owner:Array<|Option Nat) (k:Nat),owner.size=mask+1->(pH mask owner).Perm (cS k)->k+hs.length<=mask->∃g,hs.foldl (λ(p:Option<|Array (Option Nat)×Nat) h=>do
   let (owner,k) <-p;let j <-wt mask owner (pd mask) (lT h%(mask+1)) (lT h);pure (owner.setIfInBounds j<|some k,k+1)) (some (owner,k))=some (g,k+hs.length)/\g.size=mask+1/\(pH mask g).Perm (cS<|k+hs.length):=by
 intro q;induction q with
 |nil=>
  calc λowner k hz hp Z=>⟨owner,aR rfl hz hp⟩
 |cons h hs D=>
  intro owner k hz hp hk;simp only[bP] at hk;have r:=hp.length_eq;rw[lS] at r;calc ai (UF (owner:=owner) (mask:=mask)<|(aV 616977435416145) hk r) λj l=>?_;have hj:=l.1;have H:=l.2;have h1:lT h%(mask+1)<=mask:=ng<|zd _<|ph _;calc ai (KD hm h1 hj<|MN h) λn l=>?_;calc ai (Us hz hj H n _ _ _ l.1 h1 l.2) λs l=>aN l λes m z=>?_;rw[S9]
  have step:((do
   let (owner,k) <-(some (owner,k):Option<|Array (Option Nat)×Nat);let j <-wt mask owner (pd mask) (lT h%(mask+1)) (lT h);pure (owner.setIfInBounds j<|some k,k+1)):Option<|Array (Option Nat)×Nat)=some (owner.setIfInBounds s<|some k,k+1):=by
   show(wt mask owner (pd mask) (lT h%(mask+1)) (lT h)>>=λj=>pure (owner.setIfInBounds j<|some k,k+1))=_;rw[es];rfl
  rw[step]
  have C:(pH mask<|owner.setIfInBounds s<|some k).Perm (cS<|k+1):=by
   unfold pH at hp|-;have e:(cS<|mask+1).filterMap (own<|owner.setIfInBounds s<|some k)=(cS<|mask+1).filterMap λi=>if i=s then some k else own owner i:=by apply NG;exact λa Z=>UM ((ax 7908649546321) hz m) a
   rw[e];calc(NH z GX<|eM.mpr<|(aq 8131121) m).trans<|(yQ k hp).trans ?_;rw[Cd (n:=k)];exact oW (l₁:=[k])
  refine ai (D _ (k+1) (by rw[H6];calc hz) C<|(aV 655562958968346) hk r) λI l=>aN l λe1 e2 e3=>⟨I,aR ?_ e2 ?_⟩
  .rw[e1];simp only[bP];congr 2;exact(aq 105649211)
  .simp only[bP];rw[show k+(hs.length+1)=k+1+hs.length from(aq 105100481)];calc e3
theorem QY{t:gr}{hs:Array Int}(hc:Clean t)(q:hs.size<=18):∃g order,t.relaid hs 20=some (g,order)/\order.toList.Perm (cS hs.size)/\g.place.size=order.size/\Clean g/\g.mask=31/\g.led=t.led/\g.plain=t.plain:=by
 unfold M1 N5;have EV:J6 20 -1=31:=by decide+kernel
 rw[EV]
 obtain⟨o,e,hz,hp⟩:=Sr (mask:=31) (.inr rfl) hs.toList (Hk 32 none) 0 (rfl) (by
  unfold pH
  have:∀j∈cS 32,own (Hk 32 none) j=none:=λj hj=>by
   unfold own pi;split
   .simp
   .rfl
  have e:(cS 32).filterMap (own<|Hk 32 none)=[]:=by rw[List.filterMap_eq_nil_iff];exact this
  show((cS 32).filterMap<|own<|Hk 32 none).Perm _;rw[e];calc ub _) (by rw[cu];calc(aB 38617156296689) q)
 have m:Oq 31 hs=some o:=by unfold Oq;rw[<-Array.foldl_toList];exact(congrArg (HI (·.1)) e)
 rw[m];refine bv _ _<|zU rfl ?_ ?_ rfl rfl rfl rfl
 .dsimp only
  rw[np,cu] at hp;calc BY (BZ ?_) hp;unfold pH own;generalize cS (31+1)=l;induction l with
  |nil=>rfl
  |cons a l p=>
   rw[oX,oX];cases h:o.getD a none with
   |none=>simpa using p
   |some v=>simpa using p
 .simp
theorem Ln{α:Type}{es:Array α}{order:Array Nat}(h:order.toList.Perm<|cS es.size):(order.filterMap (es[·]?)).toList.Perm es.toList:=by
 rw[J4];refine(h.filterMap (es[·]?)).trans<|BZ ?_
 have gen:∀(n:Nat),n<=es.size->(cS n).filterMap (es[·]?)=es.toList.take n:=by
  intro n;induction n with
  |zero=>intro _;rfl
  |succ n j=>
   intro g;rw[Cd,List.filterMap_append,j<|(aq 2298427) g,OH];have:es[n]? =some es[n]:=ct<|(aq 7541307) g;simp[this]
 rw[gen es.size (bS _)];calc nV<|bS _
noncomputable def Cut(xs:Array Nat)(j p:Nat):Prop:=p<=xs.size/\(∀i,i<p->xs.getD i 0<j)/\∀i,p<=i->i<xs.size->j<=xs.getD i 0
noncomputable def pS(xs:Array Nat):Prop:=∀i j,i<j->j<xs.size->xs.getD i 0<xs.getD j 0
theorem TP(I:pS xs):∀(l g hi:Nat),hi -g<=l->g<=hi->hi<=xs.size->(∀i,i<g->xs.getD i 0<j)->(∀i,hi<=i->i<xs.size->j<=xs.getD i 0)->Cut xs j (GG xs j l g hi):=by
 intro C;induction C with
 |zero=>
  intro g hi hf q hz h1 z;have:g=hi:=by exact(aq 6808304431665) hf q
  clear q hf;subst this;calc⟨hz,h1,z⟩
 |succ l J=>
  intro g hi hf q hz h1 z;rw[show GG xs j (l+1) g hi=if g<hi then(if xs.getD ((g+hi)/2) j<j then GG xs j l ((g+hi)/2+1) hi else GG xs j l g<|(g+hi)/2) else g from rfl];split
  .rename_i r;have D:=(half r).1;have m:=(half r).2;rw[show xs.getD ((g+hi)/2) j=xs.getD ((g+hi)/2) 0 by unfold pi;rw[dif_pos (fL m hz),dif_pos (fL m hz)]];split
   .rename_i hm;calc J _ _ (by calc(aV 0x2a903f320df913251735) hf D m) m hz (λi p=>?_) z;rcases Pw i ((g+hi)/2) with h|h
    .exact HB (I _ _ h<|fL m hz) hm
    .have:i=(g+hi)/2:=by exact(aq 26600018451) p h
     rw[this];exact hm
   .rename_i hm;calc J _ _ (ng<|fL (M2 D m) hf) D (aL (lV m) hz) h1 λi p H=>?_;rcases Pw ((g+hi)/2) i with h|h
    .exact aL (lX.mp hm)<|lV<|I _ _ h H
    .have:i=(g+hi)/2:=by exact(aq 26594062897) p h
     rw[this];exact lX.mp hm
  .have:g=hi:=by exact(aq 425507018545) q<|by assumption
   clear q hf;subst this;calc⟨hz,h1,z⟩
theorem EN(j:Nat)(g:pS xs):Cut xs j (ni xs j):=TP g _ _ _ (by calc(aB 137697)) (cO _) (bS _) (λi h=>absurd h<|Hm _) λi h h'=>absurd h'<|by calc(aq 924242229041) h h'
theorem getD_at(xs:Array Nat)(i:Nat):xs.getD i 0=(xs[i]?).getD 0:=by
 unfold pi;split
 .rename_i h;rw[ct h];rfl
 .rename_i h;rw[qo (lX.mp h)];rfl
theorem Tv(xs:Array α)(hp:p<=xs.size)(x:α)(i:Nat):(iZ xs p x)[i]? =if i<p then xs[i]? else if i=p then some x else xs[i -1]? :=by
 unfold iZ;rw[Array.getElem?_append,K9,ua,BS,J5,J5];have e:min p xs.size -0=p:=by exact(aq 0x619e15f31231) hp
 rw[e];by_cases h1:i<p
 .rw[if_pos (by calc(ax 0x7c1639e15f53731) e h1),if_neg<|by calc(ax 0xd631639e15f53731) e h1,if_pos h1,if_pos<|by calc(aq 7542577) h1,np]
 .by_cases g:i=p
  .rw[if_pos (by calc(ax 0x7c1639e15f53631) e g),if_pos g,if_neg h1,if_pos g]
  .rw[if_neg (by calc(ax 0xd7c1639e15f53d731d631) e h1 g),if_neg h1,if_neg g];by_cases h:i -(p+1)<min xs.size xs.size -p
   .rw[if_pos h];congr 1;exact(ax 0x698349b31619e15f51d713d61379115f559b3) e h1 g h
   .rw[if_neg h,qo (by calc(dB [_,_,_] 0x29831215659e15f15d753d653d79515f11903f3) hp e h1 g h)]
theorem Rx(z:pS xs)(hj:xs[ni xs j]? ≠some j):pS (iZ xs (ni xs j) j):=by
 obtain⟨q,H,I⟩:=EN j z
 have m:∀i,ni xs j<=i->i<xs.size->j<xs.getD i 0:=λi h hz=>by
  have h0:=I _ (bS _) (by calc(ax 0x731231251735) q h hz:ni xs j<xs.size);have h1:xs.getD (ni xs j) 0≠j:=λe=>hj (by rw[getD_at,ct (by calc(ax 0x731231251735) q h hz)] at e;rw[ct (by calc(ax 0x731231251735) q h hz)];calc congrArg some e);rcases Pw (ni xs j) i with h'|h'
  .exact(ax 30889285429) h0<|z _ _ h' hz
  .have:i=ni xs j:=by exact(aq 26594062897) h h'
   rw[this];exact(aq 494226494995) h0 h1
 generalize ni xs j=p at q H I m|-
 have g:∀i,(iZ xs p j).getD i 0=if i<p then xs.getD i 0 else if i=p then j else xs.getD (i -1) 0:=λi=>by
  rw[getD_at,Tv xs q];split
  .rw[getD_at]
  .split
   .rfl
   .rw[getD_at]
 intro a b l hb;rw[By] at hb;rw[g,g];by_cases h1:b<p
 .rw[if_pos (by calc uZ l h1),if_pos h1];exact z a b l<|by exact(ax 0x7312357c1751) q hb h1
 .rw[if_neg h1];by_cases r:b=p
  .rw[if_pos r,if_pos (by calc(ax 30894528053) l r)];exact H a<|by exact(ax 30894528053) l r
  .rw[if_neg r];by_cases C:a<p
   .rw[if_pos C];have:=H a C;exact uZ (by assumption)<|m (b -1) (by calc(ax 0x29831735d713d613) l h1 r)<|by exact(ax 7943566219201) l hb
   .rw[if_neg C];by_cases D:a=p
    .rw[if_pos D];exact m _ (by calc(ax 2852687926805) l D)<|by exact(ax 7943566219201) l hb
    .rw[if_neg D];calc z _ _ (by calc(ax 0x7983981731d751d651) l C D)<|by calc(ax 7943566219201) l hb
theorem Wx{t:gr}{j:Nat}(h:t.slot j= .empty):t.place[ni t.place j]? ≠some j:=λe=>by unfold N4 at h;dsimp only at h;rw[e,if_pos (by simp)] at h;cases h
structure eW(w:bR)(n:Nat)(t:gr):Prop where
 size:t.place.size=n
 clean:Clean t
 led:t.led= !w.params.followText "set-order"
 up:pS t.place
 room:(t.mask=7/\n<=4)\/(t.mask=31/\n<=18)
theorem eW.RJ(T:eW w n t):t.dummies.size=0:=by rw[show t.dummies=#[] from T.clean];rfl
theorem eW.fits(T:eW w n t):t.fits n=true:=by unfold OW OX;rw[T.size,T.RJ];rcases T.room with⟨h,h'⟩|⟨h,h'⟩<;>rw[h]<;>calc iu.mpr ⟨beq_self_eq_true n,decide_eq_true ?_⟩<;>first|calc aL h' (show 4<=7 from lb rfl)|calc aL h'<|show 18<=31 from lb rfl
theorem eW.Ab(T:eW w n t):n<=18:=T.room.elim (λh=>aL h.2<|by decide) (·.2)
theorem eW.mask(T:eW w n t):t.mask=7\/t.mask=31:=T.room.elim (λh=> .inl h.1) λh=> .inr h.1
theorem eW.start(T:eW w n t)(x:Int):∃m,m+1<=10*pd t.mask/\Ends t m (t.probeStart x):=Zo T.clean (by rw[T.size];rcases T.room with⟨h,h'⟩|⟨h,h'⟩<;>rw[h]<;>first|calc aL h' (show 4<=7 from lb rfl)|calc aL h'<|show 18<=31 from lb rfl) T.mask x
theorem Nm(hc:Clean t)(e:t.probe at_ x p=r)(g:n+1<=10*pd t.mask)(E:Ends t n p):(∃j,r=some (.empty j none)/\t.slot j= .empty)\/(∃j i q m,r=some (.candidate j i q)/\t.slot j= .live i/\t.place[i]? =some j/\at_ i=x/\m<n/\Ends t m q):=by rw[<-e];calc VX hc _ _ _ g E
noncomputable def Flat(d:Dt):Prop:=∃o ns,d= .tup (.str o::ns)/\gp o=true/\∀x∈ns,∃n,x= .int n
theorem Flat.key(h:Flat d):d.key=true:=by
 obtain⟨o,ns,rfl,l,h⟩:=h;show Dt.keys (.str o::ns)=true;rw[Dt.zL];intro x g;rcases dD.mp g with rfl|g
 .exact l
 .refine ai (h x g) λn j=>?_;clear g;subst j;rfl
theorem Flat.depth(h:Flat d):d.depth<=1:=by
 obtain⟨o,ns,rfl,_,h⟩:=h
 have:∀(l:List Dt),(∀x∈l,∃n,x= .int n)->Dt.dG l=0:=by
  intro l;induction l with
  |nil=>intro _;rfl
  |cons a l j=>
   calc λh=>ai (h a dC) λn g=>?_;subst g;exact congrArg (max 0)<|j λx m=>h x<|dw _ m
 show max 0 (Dt.dG ns)+1<=1;rw[this ns h];calc bS 1
section
variable{prog:eN}{w:bR}{A:cj}{E:Value->aA->Prop}{s:aA}
theorem Vb{w:bR}{g:Look}{ns:List Dt}{us:List Value}(h:∀x∈ns,∃n,x= .int n)(r:aT w g ns us)(x:Value)(j:x∈us):∃u t,x= .int u t:=ai (r.pick x j) λd q=>ai (h d q.1) λn e=>⟨n,show∃t,x= .int n t from(e▸q.2:be w g (.int n) x)⟩
theorem Flat.open{d:Dt}{v:Value}(h:Flat d)(r:be w s.heap.get? d v):∃(a:Addr) (ob:Obj) (items:Array Value) (n:Nat),v= .ref a/\s.heap.get? a=some ob/\ob.cls= .type "tuple"/\ob.data= .seq items n/\(∃u,∃t,items.toList.head? =some (.str u t))/\∀x∈items.toList,(∃u t,x= .str u t)\/∃u t,x= .int u t:=by
 obtain⟨o,ns,rfl,_,j⟩:=h;obtain⟨a,ob,items,n,e,l,hc,hd,hi⟩:=r;obtain⟨u,us,e1,⟨t,e2⟩,m⟩:=hi;subst e2;calc⟨a,ob,items,n,e,l,hc,hd,bv _ _<|by rw[e1];rfl,λx g=>?_⟩;rw[e1] at g;rcases dD.mp g with rfl|g
 .exact .inl<|bv _ _ rfl
 .exact .inr<|Vb j m x g
theorem Td(q:Flat d)(r:be w s.heap.get? d v)(h:Q false s):ao (aO prog w) A (hashByValue 8 v) Q E s:=by
 calc jV (q.open r) λa ob items n g=>gS g λj m hc hd l Z=>?_;clear g;clear r;subst j;calc aE l λu t hh=>?_;unfold hashByValue;calc af<|pb ⟨ob,m,hc⟩ PySem.F.slot_tuple_hash.lookup ?_;show ao _ _ (CP (.ref a)>>=_) _ _ s;calc af<|lx m hd<|af<|zB (xs:=items) ?_;cases p:items.toList with
 |nil=>rw[p] at hh;calc bp hh
 |cons x xs=>
  rw[p] at hh;obtain rfl:x= .str u t:=by simpa using hh
  rw[qs];calc af<|af ?_;show ao _ _ (pure false) _ _ s;calc ap<|fM rfl<|ap<|ap<|ap h
theorem Nl(D:Flat d)(r:be w s.heap.get? d v)(h:Q false s):ao (aO prog w) A (ofAClassStatement 8 v) Q E s:=by
 calc jV (D.open r) λa ob items n g=>gS g λj m hc hd Z l=>?_;clear g;subst j;have p:s.TypeIs (.ref a) "tuple":=⟨ob,m,hc⟩
 set_option smartUnfolding false in show ao _ _ (zn (.ref a)>>=_) _ _ s
 refine af<|ug p<|af<|ap<|af<|lx m hd<|af<|zB<|Cg _ (λrest q s'=>s'=s/\q.1=none/\∀x∈rest,(∃u t,x= .str u t)\/∃u t,x= .int u t) _ ?_ ?_ _ _<|aR rfl rfl l
 .intro x rest q s' g;calc aN g λj z C=>?_;clear g;clear m p r h;subst j
  calc af ?_;have:ofAClassStatement 7 x=pure false:=by rcases C x dC with⟨u,t,rfl⟩|⟨u,t,rfl⟩<;>rfl
  set_option smartUnfolding false in refine yY this<|ap ?_
  simp only[OC,if_false];exact aR trivial trivial λy hy=>C y<|dw _ hy
 .intro q s' g;calc aN g λj z Z=>?_;clear g;clear m p r;subst j;obtain⟨H,I⟩:=q;obtain rfl:H=none:=z;calc ap h
theorem YN{x:Dt}{v:Value}{st:List Value}{Q:Bool->aA->Prop}(p:Flat x)(r:be w s.heap.get? x v)(l:∀u∈st,∃y:Dt,Flat y/\be w s.heap.get? y u)(h:Q false s):ao (aO prog w) A (searchCouldBeSeen v st) Q E s:=by
 unfold searchCouldBeSeen;refine af<|Cg _ (λrest q s'=>s'=s/\q.1=none/\∀u∈rest,∃y:Dt,Flat y/\be w s.heap.get? y u) _ ?_ ?_ _ _<|aR rfl rfl l
 .intro u rest q s' g;calc aN g λj D H=>?_;clear g;clear l h;subst j;calc ai (H u dC) λy g=>aw g λz C=>jV (p.open r) λL Z Z Z g=>aw g λj Z=>?_;clear g;subst j;calc jV (z.open C) λN Z Z Z g=>aw g λj Z=>?_;clear g;clear g;subst j;have m:∀u∈rest,∃y:Dt,Flat y/\be w s'.heap.get? y u:=λu I=>H u<|dw _ I;dsimp only;exact qt (λZ=>ap<|aR rfl rfl m) λZ=>af<|AO 8 x p.key (by have:=p.depth;calc(aB 586093185) this) r<|cw rfl<|af<|AO 8 y z.key (by have:=z.depth;calc(aB 586093185) this) C<|cw rfl<|af<|Nl p r<|cw rfl<|af<|Nl z C<|cw rfl<|ap<|aR rfl rfl m
 .intro q s' g;calc aN g λj D Z=>?_;clear g;clear l r;subst j;obtain⟨J,P⟩:=q;obtain rfl:J=none:=D;calc ap h
noncomputable def Fj(w:bR)(g:Look)(ds:List Dt)(es:Array<|Int×Value):Prop:=aT w g ds (es.toList.map (·.2))/\∀d∈ds,Flat d
theorem Xv{a:Addr}{o:Obj}{es:Array<|Int×Value}{ep:Nat}{t:gr}{ds:List Dt}{x:Dt}{v:Value}{h:Int}{Q:SetFound->aA->Prop}(Y:A.units+3<dP)(P:s.heap.get? a=some o)(hd:o.data= .set es ep t)(T:eW w es.size t)(R:Fj w s.heap.get? ds es)(I:Flat x)(S:be w s.heap.get? x v)(J:x∈ds->Q (.there none) s)(D:∀j,t.slot j= .empty->Q (.free j false) s):∀(n g:Nat) (p:Option sd),n+1<=g->n+1<=10*pd t.mask->Ends t n (p.getD<|t.probeStart h)->ao (aO prog w) A (setSearchFrom a v h true g p) Q E s:=by
 intro n;induction n using Cj with
 |ind n Z=>
  intro g p hf U En;cases g with
  |zero=>calc absurd hf<|gm _
  |succ g=>
  show ao _ _ (_>>=_) _ _ s;calc af<|lu P hd T.fits ?_;have hg:t.gaveWay=false:=by unfold SetTable.gaveWay;rcases T.mask with e|e<;>rw[e]<;>rfl
  calc cw (by rw[hg];rfl) ?_;rcases Nm T.clean rfl U En with⟨j,e,hj⟩|⟨j,i,q,m,e,hj,hp,_,r,Em⟩
  .rw[e];exact ap<|D j hj
  .rw[e]
   have hi:i<es.size:=by rw[<-T.size];exact(rS.mp hp).1
   calc ai (aT.pick R.1 _<|cL<|qn hi) λy l=>aw l λhy X=>?_;apply tl
   case main=>
    calc λkey=>qt (λ_=>af<|YN I S (λu H=>ai (bb.mp H) λe l=>aw l λhe L=>?_)<|cw rfl key) λ_=>key;clear l;clear H;subst L;rw[Array.toList_filter] at he;exact ai (aT.pick R.1 e.2<|cL (gK.mp he).1) λd l=>aw l λN rd=>⟨d,R.2 d N,rd⟩
   case pr=>
    rw[ct hi];calc af<|co<|th (R.2 y hy).key I.key (by have:=I.depth;calc(aV 0x7a415f5317a40cf1285) Y this) X S<|af<|lu P hd T.fits ?_;by_cases z:y=x
    .rw[decide_eq_true z];exact ap<|J<|z▸hy
    .rw[decide_eq_false z]
     have C:t.sameMemory t.moves t.mask=some true:=by unfold SetTable.sameMemory;rw[if_pos (by simp)]
     calc cw rfl ?_;rw[C];dsimp only;rw[if_pos rfl,hj];dsimp only;rw[ct hi];calc jV ((R.2 y hy).open X) λay ob items n' l=>aN l λey a0 _=>af ?_;rw[ey];calc wpAny_isSame_ref_self<|af<|ap<|Z m r g (some q) ((ax 2453164783441) hf r) ((ax 0x22df3b22df303f751) U r) Em
end
end
section
theorem VK{l:List Nat}(h:l.Pairwise (·<·)):pS l.toArray:=λi j m hj=>by
 have g:j<l.length:=by simpa using hj
 rw[getD_at,getD_at,GD,GD,cR<|uZ m g,cR g];calc(H4.mp h i j (uZ m g) g m)
theorem Yp{t r:gr}{n:Nat}(h:t.relaid hs n=some (r,order)):pS r.place:=by
 unfold M1 N5 at h;cases z:Oq (J6 n -1) hs with
 |none=>rw[z] at h;calc bp h
 |some owner=>
  rw[z] at h;calc aw (wP<|gn h) λg m=>?_;subst g;clear h;subst m;refine VK ?_
  have gen:∀(l:List Nat),l.Pairwise (·<·)->((l.filterMap λj=>(owner.getD j none).map (j,·)).map (·.1)).Pairwise (·<·):=by
   intro l;induction l with
   |nil=>intro _;calc List.Pairwise.nil
   |cons a l C=>
    intro h;have q:=(M9.mp h);have D:=q.2;rw[oX];cases I:owner.getD a none with
    |none=>calc C D
    |some v=>
     calc M9.mpr ⟨λb hb=>ai (bb.mp hb) λp g=>aw g λhp m=>?_,C D⟩;clear g;subst m;calc ai (Oy.mp hp) λj g=>aw g λhj e=>?_;cases H:owner.getD j none with
     |none=>rw[H] at e;calc bp e
     |some u=>
      rw[H] at e;obtain rfl:(j,u)=p:=gn e;exact q.1 j hj
  calc gen _ List.pairwise_lt_range
section
variable{prog:eN}{w:bR}{A:cj}{E:Value->aA->Prop}{s:aA}
theorem eW.put(T:eW w n t)(hj:t.slot j= .empty)(b:Bool)(h:n<18):(t.put j).2<=n/\(({(t.put j).1 with plain:=b}:gr).place.size=n+1)/\Clean {(t.put j).1 with plain:=b}/\({(t.put j).1 with plain:=b}:gr).led=(!w.params.followText "set-order")/\pS ({(t.put j).1 with plain:=b}:gr).place/\({(t.put j).1 with plain:=b}:gr).mask=t.mask:=by
 have g:=(IY T.clean j);rw[g.1,g.2];refine tG ?_ ?_ T.clean T.led (Rx T.up<|Wx hj) rfl
 .have:=(EN j T.up).1;rw[T.size] at this;exact this
 .show(iZ _ _ _).size=_;rw[By,T.size]
noncomputable def DY(w:bR)(n:Nat)(e:Int×Value)(es:Array<|Int×Value)(g:Array<|Int×Value)(h:gr):Prop:=eW w g.size h/\g.size=n+1/\g.toList.Perm (e::es.toList)
theorem UP(Y:s.heap.get? a=some o)(hd:o.data= .set es ep t)(T:eW w es.size t)(hz:es.size<18)(hj:t.slot j= .empty)(new:∀h' z L Z,lU a s.heap h'->h'.get? a=some {o with data:= .set z L Z}->DY w es.size (h,v) es z Z->Q true {s with heap:=h'}):ao (aO prog w) A (do
   storeSet a (iZ es (t.put j).2 (h,v)) {(t.put j).1 with plain:=b}
   if(!false&&({(t.put j).1 with plain:=b}:gr).tooFull)=true then do
    setRelay a (OM<|es.size+1);return true
   else return true) Q E s:=by
 calc gS (T.put (w:=w) hj b hz) λp1 q N p4 p5 J=>?_;generalize ht:({(t.put j).1 with plain:=b}:gr)=t1 at*
 have hp:(iZ es (t.put j).2 (h,v)).toList.Perm ((h,v)::es.toList):=insertAt_perm _ _ _;have m:(iZ es (t.put j).2 (h,v)).size=es.size+1:=By _ _ _;generalize iZ es (t.put j).2 (h,v)=g at*
 calc af<|Hd Y hd ?_ (by rw[m,dO];calc(ax 0x21afb71ff16b36b5) hz q m);have hg:(s.heap.update a<|yZ g t1).get? a=some {o with data:= .set g (ep+1) t1}:=by have:=fK (yZ g t1) Y (by rw[zg g t1 hd];rfl);rw[zg g t1 hd] at this;exact this
 have C:=dA s.heap a<|yZ g t1;have P:t1.dummies.size=0:=by rw[show t1.dummies=#[] from N];rfl
 have l:t1.fill=es.size+1:=by unfold OX;rw[q,P]
 refine qt (λ_=>?_) λ_=>?_
 .rename_i hf
  have hf:t1.tooFull=true:=by simpa using hf
  unfold Ov at hf;rw[l,J] at hf;have hf:=of_decide_eq_true hf;rw[Hz] at hf
  obtain⟨hm,D⟩:t.mask=7/\es.size=4:=by
   rcases T.room with⟨e,h'⟩|⟨e,h'⟩<;>rw[e] at hf
   .exact⟨e,(dB [es.size] 0x602f123bfb41f202f1) hf h'⟩
   .exact absurd ((dB [es.size] 0x7e823bfb44f71ff1) hf hz)<|gm _
  rw[show OM (es.size+1)=20 by rw[D];rfl];calc af ?_;unfold setRelay;have H:t1.fits g.size=true:=by unfold OW;rw[l,q,m,J,hm,D];rfl
  calc af<|lu hg rfl H ?_;dsimp only;calc cw rfl<|aE (QY (t:=t1) (hs:=g.map (·.1)) N<|by rw[Pc,m];calc(aV 0x21ffb6b36b56ba602f1) q m l D) λt2 order S=>qY S λer r U ec em el _=>?_;rw[er];rw[Pc] at r;have I:=Ln (es:=g) r;have p:(order.filterMap (g[·]?)).size=g.size:=by have:=I.length_eq;rwa [cu,cu] at this
  have X:order.size=g.size:=by have:=r.length_eq;rwa [cu,lS] at this
  refine af (yY (a:=(order.filterMap (g[·]?),t2)) (if_neg<|by simp[p]) ?_)
  .dsimp only;calc Hd hg rfl (ap (new _ (order.filterMap (g[·]?)) (ep+1+1) t2 (C.trans<|dA ..) ?_ ⟨⟨U.trans<|X.trans p.symm,ec,by rw[el];calc p4,(Yp er),.inr ⟨em,by rw[p,m];calc(aV 0x21ffb6b36b56ba602f1) q m l D⟩⟩,by rw[p,m],I.trans hp⟩)) (by rw[p,m,dO];calc(aV 0x21afb6b36b56ba602f1) q m l D);have:=fK (yZ (order.filterMap (g[·]?)) t2) hg (by rw[zg _ _ rfl];rfl);rw[zg _ _ rfl] at this;exact this
 .rename_i hf
  have hf:¬(t1.tooFull=true):=by simpa using hf
  unfold Ov at hf;rw[l,J] at hf;have hf:¬((es.size+1)*5>=t.mask*3):=λh=>hf<|decide_eq_true h;calc ap<|new _ g (ep+1) t1 C hg ⟨⟨by rw[q,m],N,p4,p5,?_⟩,m,hp⟩;rw[J,m];rcases T.room with⟨e,h'⟩|⟨e,h'⟩<;>rw[e] at hf|-
  .rw[Hz] at hf;exact .inl ⟨rfl,(dB [es.size] 9059688649831455) hf⟩
  .exact .inr ⟨rfl,(aV 0x21ffb71ff16b36b56ba) hz q m l⟩
theorem VQ(J:A.units+3<dP)(m:s.heap.get? a=some o)(hd:o.data= .set es ep t)(T:eW w es.size t)(hz:es.size<18)(R:Fj w s.heap.get? ds es)(p:Flat x)(q:be w s.heap.get? x v)(r:x∈ds->Q false s)(new:∀h' l z H,lU a s.heap h'->h'.get? a=some {o with data:= .set l z H}->DY w es.size (h,v) es l H->Q true {s with heap:=h'}):ao (aO prog w) A (HK a v h) Q E s:=by
 unfold HK setAddHashedIn;calc co<|af<|lu m hd T.fits ?_;dsimp only;calc jV (p.open q) λN Z Z Z g=>?_;have C:byScan v es=false:=by rw[g.1];rfl
 rw[C];calc cw rfl ?_;unfold setSearch;calc ai (T.start h) λn g=>?_;have I:=g.1;have D:10*pd t.mask<=460:=by rcases T.mask with e|e<;>rw[e]<;>decide
 refine af<|Xv J m hd T R p q (λL=>ap<|r L) (λj hj=>?_) n 100000 none ((aq 0x246fb22df3b245f2df3) I D) I g.2
 .dsimp only;calc af<|lu m hd T.fits ?_;dsimp only
  have fin:∀b:Bool,ao (aO prog w) A (do
   storeSet a (iZ es (t.put j).2 (h,v)) {(t.put j).1 with plain:=b}
   if(!false&&({(t.put j).1 with plain:=b}:gr).tooFull)=true then do
    setRelay a (OM<|es.size+1);return true
   else return true) Q E s:=λb=>UP m hd T hz hj new
  refine qt (λZ=>?_) λZ=>?_
  .refine af<|Td p q ?_;exact fin false
  .refine af<|ap ?_;calc fin _
end
end
section
section
variable{prog:eN}{w:bR}{A:cj}{E:Value->aA->Prop}{s:aA}
theorem Xb(e:m=pure ())(h:Q () s):ao (aO prog w) A m Q E s:=yY e h
theorem add_int(I:s.heap.get? a=some o)(hd:o.data= .set es ep t)(T:eW w es.size t)(hz:es.size<4)(R:ElemsOf (zk prog w) es.toList)(X:(∃e∈es.toList,∃u,e.2= .int n u)->Q false s)(new:∀h' J Y t',lU a s.heap h'->h'.get? a=some {o with data:= .set J Y t'}->DY w es.size (kK n,.int n D) es J t'->Q true {s with heap:=h'}):ao (aO prog w) A (HK a (.int n D)<|kK n) Q E s:=by
 unfold HK setAddHashedIn;calc co<|af<|lu I hd T.fits ?_;dsimp only;rw[byScan_of (knd:=zk prog w) rfl (by unfold scanBound;calc(aB 500348420849) hz) R];calc fM rfl ?_;unfold setAddByScan;calc af<|af<|fq<|af<|wpAny_setScan_of (knd:=zk prog w) (k:=n) (intKind_is _ _ _ _) I hd T.fits R ?_;cases hr:List.findIdx? (λe=>(zk prog w).is n e.2) es.toList with
 |some j=>
  dsimp only;calc ai (List.findIdx?_eq_some_iff_getElem.mp hr) λhj p=>?_;calc ap<|ap<|X ⟨es.toList[j],gJ hj,ai (M6 p.1) λu hu=>⟨u,hu⟩⟩
 |none=>
  dsimp only;calc ai (T.start<|kK n) λk p=>?_;have hk:=p.1;have Ek:=p.2
  have H:∃j,t.freeSlot (kK n)=some (j,false)/\t.slot j= .empty:=by
   unfold SetTable.freeSlot;rcases Nm T.clean (rfl:t.probe (λ_=>kK n+1) (kK n) (t.probeStart<|kK n)=_) hk Ek with⟨j,e,hj⟩|⟨j,i,q,m,e,_,_,h1,_⟩
   .rw[e];exact⟨j,rfl,hj⟩
   .exact absurd (h1▸Int.lt_succ (kK n))<|Int.lt_irrefl _
  calc ai H λj p=>?_;calc gS (T.put (w:=w) p.2 t.plain<|(aB 489611002609) hz) λp1 z Z p4 p5 U=>?_;have r:(t.put j).1.plain=t.plain:=by rw[(IY T.clean j).1]
  have L:({(t.put j).1 with plain:=t.plain}:gr)=(t.put j).1:=by rw[<-r]
  rw[L] at z Z p4 p5 U;have l:(iZ es (t.put j).2 (kK n,HP n D)).size=es.size+1:=By _ _ _;have a0:(t.put j).1.dummies.size=0:=by rw[show(t.put j).1.dummies=#[] from Z];rfl
  have g:(t.put j).1.fill=es.size+1:=by unfold OX;rw[z,a0]
  have N:(t.put j).1.fits (es.size+1)=true:=by unfold OW;rw[g,z,U];calc iu.mpr ⟨beq_self_eq_true _,decide_eq_true ?_⟩;rcases T.room with⟨e,h'⟩|⟨e,h'⟩<;>rw[e]<;>first|exact aL hz (show 4<=7 from lb rfl)|exact aL hz<|show 4<=31 from lb rfl
  have P:layNew t es (kK n) (.int n D)=(iZ es (t.put j).2 (kK n,.int n D),(t.put j).1,false,false):=by unfold layNew;rw[p.1];dsimp only;rw[l];unfold SetTable.orStandIn;rw[N];rfl
  rw[P];dsimp only;calc af<|Xb rfl ?_;have S:¬((!false&&(t.put j).1.tooFull)=true):=by unfold Ov;rw[g,U];have:¬((es.size+1)*5>=t.mask*3):=zc.mpr (by calc yN (nc 5 hz) ?_;rcases T.room with⟨e,h'⟩|⟨e,h'⟩<;>rw[e]<;>decide);simp only[U6,Bool.true_and];exact λh=>this<|of_decide_eq_true h
  have C:Q true {s with heap:=s.heap.update a<|yZ (iZ es (t.put j).2 (kK n,.int n D)) (t.put j).1}:=by
   refine new _ (iZ es (t.put j).2 (kK n,.int n D)) (ep+1) (t.put j).1 (dA ..) ?_ ⟨⟨by rw[z,l],Z,p4,p5,?_⟩,l,(insertAt_perm _ _ _)⟩
   .have:=fK (yZ (iZ es (t.put j).2 (kK n,HP n D)) (t.put j).1) I (by rw[zg _ _ hd];rfl);rw[zg _ _ hd] at this;exact this
   .rw[U,l];rcases T.room with⟨e,h'⟩|⟨e,h'⟩<;>rw[e]
    .exact .inl ⟨rfl,(aV 0x202fb702f16b36b56ba) hz z l g⟩
    .exact .inr ⟨rfl,(aV 0x21ffb702f16b36b56ba) hz z l g⟩
  refine qt (λ_=>?_) λ_=>?_
  .refine af ?_;rw[hashByValue_scannable 8 rfl];calc ap ?_;exact af<|Hd I hd (cw (decide_eq_false S)<|ap<|ap C)<|by rw[l,dO];exact(aV 0x21afb702f16b36b56ba) hz z l g
  .refine af<|ap ?_;calc af<|Hd I hd (cw (decide_eq_false S)<|ap<|ap C)<|by rw[l,dO];calc(aV 0x21afb702f16b36b56ba) hz z l g
end
end
section
noncomputable def my(es:Array<|Int×Value)(ep:Nat)(t:gr):Obj:={cls:= .type "set",dict:=none,data:= .set es ep t}
noncomputable def oD(w:bR)(h:Heap)(S:Addr)(es:Array<|Int×Value):Prop:=∃ep t,h.get? S=some (my es ep t)/\eW w es.size t
theorem Qu(w:bR):eW w 0 (.fresh 0 0 (!w.params.followText "set-order")) where
 size:=rfl
 clean:=rfl
 led:=rfl
 up:=λi j h1 g=>absurd g<|Hm _
 room:= .inl ⟨rfl,cO _⟩
section
variable{prog:eN}{w:bR}{A:cj}{E:Value->aA->Prop}{s:aA}
theorem Ve(a:Value)(h:Q₁ (.ref s.heap.objs.size) {s with heap:=s.heap.push<|my #[] 0 (.fresh 0 0 (!w.params.followText "set-order"))}):lz (aO prog w) A (.call (.builtin "set.__new__") ⟨[.type "set",a],[]⟩) (wants Q₁ E) s:=by calc Pj ?_;show ao _ A.in1 (do checkBuiltinCall "set.__new__" ⟨[.type "set",a],[]⟩;pB<|.builtin "set.__new__" ⟨[.type "set",a],[]⟩) _ _ s;calc af<|yY (PySem.F.newCall_set_1 a)<|ap ⟨wI I9 _,pc PySem.F.entry_set_new ?_⟩;rw[rW I9 _];unfold jd.«set.__new__» aae;have j:=sub_set_self;obtain⟨hp,g,d,l,os⟩:=s;dsimp only;wp_walk;calc Ch<|ap ?_;dsimp only;unfold newObj;calc af<|wpAny_alloc<|ap<|ap h
end
section
variable{c:Cx}
noncomputable def zp(c:Cx)(A:cj)(s₀:aA)(S:Addr)(v:Value)(G h:Array (Int×Value)->Prop):Prop:=∀(s:aA) (es:Array<|Int×Value) (Q:Bool->aA->Prop),(∀b o,s₀.heap.get? b=some o->s.heap.get? b=some o)->oD c.w s.heap S es->G es->(∀b h' g j,lU S s.heap h'->oD c.w h' S g->h g->Q b {s with heap:=h',toks:=j})->ao (aO c.prog c.w) A (setAdd S v) Q EF s
theorem UK{A:cj}{s₀:aA}{l S I:Addr}{items:Array Value}{G:Nat->Array (Int×Value)->Prop}(hh:A.handled=none)(z:s₀.heap.IsList l items)(C:s₀.heap.get? S=none)(m:s₀.heap.get? I=none)(p:S≠I)(hn:small items.size)(tz:∀i v,items[i]? =some v->zp c A.in1 s₀ S v (G i) (G<|i+1)){R:Result->aA->Prop}:∀(k i:Nat) (s:aA) (es:Array<|Int×Value),items.size -i=k->i<=items.size->(∀b o,s₀.heap.get? b=some o->s.heap.get? b=some o)->s.gens=s₀.gens->s.os=s₀.os->oD c.w s.heap S es->G i es->(s.heap.IsListIter I l i/\s.heap.IsList l items)->(∀s' D,s'.gens=s₀.gens->s'.os=s₀.os->(∀b o,s₀.heap.get? b=some o->s'.heap.get? b=some o)->oD c.w s'.heap S D->G items.size D->R (.ok<|.ret .none) s')->lz (aO c.prog c.w) A (.builtin "set.update.loop" ⟨[.ref S,.ref I],[]⟩) R s:=by
 have N:l≠I:=by rintro rfl;obtain⟨o,j,_⟩:=z;rw[m] at j;exact bp j
 have P:l≠S:=by rintro rfl;obtain⟨o,j,_⟩:=z;rw[C] at j;exact bp j
 have W:=PH (prog:=c.prog) (w:=c.w) (A:=A.in1) (hh) I l N items;intro k;induction k with
 |zero=>
  intro i s es hk hi g hg q U X r Y;have:i=items.size:=(aq 6809378173489) hk hi;clear hk hi;subst this;calc pc D7 ?_;rw[rW NP _];show ao _ A.in1 (gM (.ref I)>>=_) _ _ s;calc af<|W.done s _ _ r λh' Z h=>?_;show ao _ A.in1 (ret ga) _ _ _;obtain⟨ep,t,j,T⟩:=U;calc ap<|Y {s with heap:=h',toks:=Z} es hg q (λb o e=>h b o (by simp;rintro rfl;rw[m] at e;calc bp e)<|g b o e) ⟨ep,t,h _ _ (by simp;calc p) j,T⟩ X
 |succ k ih=>
  calc λi s es hk hi g hg q U X r Y=>pc D7 ?_;rw[rW NP _];show ao _ A.in1 (gM (.ref I)>>=_) _ _ s;calc af<|W.item i s _ _ ((ax 0x731603f913231) hk hi) r λv h' Z hP H h=>?_;obtain⟨ep,t,j,T⟩:=U;have J:∀b o,s₀.heap.get? b=some o->h'.get? b=some o:=λb o e=>h b o (by simp;rintro rfl;rw[m] at e;calc bp e)<|g b o e;show ao _ A.in1 (gL [v] (setAdd S v)>>=_) _ _ _;calc af<|co<|kC<|tz i v hP {s with heap:=h',toks:=Z} es _ J ⟨ep,t,h _ _ (by simp;calc p) j,T⟩ X λb h2 a0 a1 L a2 a3=>?_;have a5:∀b o,s₀.heap.get? b=some o->h2.get? b=some o:=λb o e=>L.extBut b o (by rintro rfl;rw[C] at e;calc bp e)<|J b o e;calc ap ⟨wI NP _,ih (i+1) {s with heap:=h2,toks:=a1} a0 ((ax 0x659c1603f931213) hk hi) ((ax 628234522800689) hk hi) a5 hg q a2 a3 (W.frame _ h' h2 H λb hb o e=>L.extBut b o ((show∀x∈_,x≠S from fa (λe=>p e.symm)<|fa P dF) b hb) e) Y⟩
end
end
set_option maxRecDepth 100000
section
variable{c:Cx}
theorem IA{A:cj}{s:aA}{items:Array Value}{G:Nat->Array (Int×Value)->Prop}{Q:Value->aA->Prop}(hh:A.handled=none)(hl:s.heap.IsList l items)(hn:small items.size)(tz:∀(A':cj),A'.units<=A.units+5->∀i v,items[i]? =some v->zp c A' s s.heap.objs.size v (G i) (G<|i+1))(h0:G 0 #[])(h:∀s' es,s'.gens=s.gens->s'.os=s.os->(∀b o,s.heap.get? b=some o->s'.heap.get? b=some o)->oD c.w s'.heap s.heap.objs.size es->G items.size es->Q (.ref s.heap.objs.size) s'):ao (aO c.prog c.w) A (call (.type "set") [.ref l]) Q EF s:=by
 calc aE tP.mro λcc tl a7=>?_;have Z:=tP.made;have a8:=tP.sub;calc PZ<|Pj ?_;show ao _ _ (callAny (.type "set") _) _ _ _;calc ap ⟨Code.quiet_builtin _<|by decide+kernel,pc PySem.F.entry_type_call ?_⟩;rw[Around.under_plain (weight_type_call_type "set" [.ref l] []) rfl];have h1:=tP.notType;have h2:=tP.canCreate;have b2:=PySem.F.typeCall_set_1<|.ref l
 repeat (any_goals (first|assumption|wp_step))
 calc lW (Ve (.ref l) (E:=EF) (Q₁:=λI s₁=>I= .ref s.heap.objs.size/\s₁={s with heap:=s.heap.push {cls:= .type "set",dict:=none,data:= .set #[] 0 (.fresh 0 0 (!c.w.params.followText "set-order"))}}) ⟨rfl,rfl⟩) λr s₁ Y=>?_;cases r with
 |error e=>calc Y
 |ok fl=>
  cases fl with
  |ret I=>
   calc aw Y λp j=>?_;clear Y;subst p;subst j;have J:=Qu c.w;generalize (!c.w.params.followText "set-order")=led at J|-;have hS:(s.heap.push {cls:= .type "set",dict:=none,data:= .set #[] 0 (.fresh 0 0 led)}).get? s.heap.objs.size=some {cls:= .type "set",dict:=none,data:= .set #[] 0 (.fresh 0 0 led)}:=dy _ rfl;have hT:Pd {s with heap:=s.heap.push {cls:= .type "set",dict:=none,data:= .set #[] 0 (.fresh 0 0 led)}} (.ref s.heap.objs.size) "set":=⟨_,hS,rfl⟩;have b3:=tP.init.lookup;have b4:=tP.init.bind<|.ref s.heap.objs.size
   repeat (any_goals (first|assumption|wp_step))
   refine lW (R9 (R:=wants (λr s₂=>r= .none/\∃es,s₂.gens=s.gens/\s₂.os=s.os/\(∀b o,s.heap.get? b=some o->s₂.heap.get? b=some o)/\oD c.w s₂.heap s.heap.objs.size es/\G items.size es) EF) tP.init.plain PySem.F.entry_set_init<|PySem.check_set_init_1 hT ?_) λL s₂ g=>?_
   .obtain⟨ol,a0,N,nl,P⟩:=id hl
    obtain⟨a9,q,a1,m⟩:=ol;simp only at N P;subst N;subst P;have S:(s.heap.push {cls:= .type "set",dict:=none,data:= .set #[] 0 (.fresh 0 0 led)}).get? l=some {cls:= .type "list",dict:=q,data:= .seq items nl,slots:=m}:=bW _ a0;have b0:=PySem.F.sub_list_set;have b1:=PySem.F.sub_list_frozenset;have b5:(kJ "list"==kJ "dict")=false:=by decide
    have T:(s.heap.push {cls:= .type "set",dict:=none,data:= .set #[] 0 (.fresh 0 0 led)}).IsList l items:=⟨_,S,rfl,nl,rfl⟩;unfold jd.«set.__init__» noKeywords aab;generalize a2:mc=PI;wp_walk;subst a2;calc Hg (s:={s with heap:=s.heap.push {cls:= .type "set",dict:=none,data:= .set #[] 0 (.fresh 0 0 led)}}) T<|af<|Pq ?_;have a3:A.in1.in1.handled=none:=by assumption
    have U:(s.heap.push {cls:= .type "set",dict:=none,data:= .set #[] 0 (.fresh 0 0 led)}).objs.size=s.heap.objs.size+1:=hV ..;have a5:(s.heap.push {cls:= .type "set",dict:=none,data:= .set #[] 0 (.fresh 0 0 led)}).objs.size≠s.heap.objs.size:=by rw[U];exact Cu<|pa _
    refine UK (s₀:=s) (G:=G) a3 hl (gA _<|bS _) (gA _<|by rw[U];calc oa _) a5.symm hn (λi v hv=>tz _ ?_ i v hv) (items.size -0) 0 {s with heap:=(s.heap.push {cls:= .type "set",dict:=none,data:= .set #[] 0 (.fresh 0 0 led)}).push {cls:= .type "list_iterator",data:= .fields #[.ref l,.int 0 0]}} #[] ((aB 111024609)) (cO _) (λb o e=>bW _<|bW _ e) rfl rfl ⟨0,_,bW _ hS,J⟩ h0 ⟨⟨_,dy _ rfl,rfl,rfl⟩,T.push _⟩ λs' a6 hg z hk C D=>?_
    .show A.units+1+1+1<=A.units+5;exact(aB 2477106955403)
    .show ao _ _ _ _ _ _;calc ap ?_;show ao _ _ (ret ga) _ _ _;exact ap ⟨rfl,⟨a6,km hg z hk C D⟩⟩
   .cases L with
    |error e=>calc g
    |ok H=>
     cases H with
     |ret r=>
      calc aw g λp j=>ai j λes X=>fi X λhg z hk C D=>?_;clear j X g;subst p
      repeat (any_goals (first|assumption|wp_step))
      calc h _ es hg z hk C D
     |_=>calc g.elim
  |_=>calc Y.elim
end
section
theorem Ke:Manifest.owners.lookup (String.ofList ['r','o','t','a','r','e','t','i','_','t','e','s'].reverse)=some Manifest.sig_set_iterator:=by kernel_rfl
theorem LO:Slot "set_iterator" "__iter__" "set_iterator.__iter__":= .of (owner:="set_iterator") (n:="__iter__") (by rw[Ht,GL];kernel_rfl) (by decide+kernel) (by decide+kernel) (by decide+kernel) (by first|calc .inl (by decide+kernel)|calc .inr<|by decide+kernel)<|by rw[Hy];kernel_rfl
theorem SA:entryFor table "set_iterator.__iter__"=some jd.«dict_keyiterator.__iter__»:=entryFor_alias (id':="dict_keyiterator.__iter__") (by kernel_rfl) rfl (by decide+kernel)<|by kernel_rfl
theorem XR(a:Value):argsOk "set_iterator.__iter__" ⟨[a],[]⟩:=by unfold argsOk;rw[signature?_of (id:="set_iterator.__iter__") (n:=['_','_','r','e','t','i','_','_']) (o:=['r','o','t','a','r','e','t','i','_','t','e','s']) (by kernel_rfl) Ke];kernel_rfl
theorem ny:Slot "set_iterator" "__next__" "set_iterator.__next__":= .of (owner:="set_iterator") (n:="__next__") (by rw[Ht,GL];kernel_rfl) (by decide+kernel) (by decide+kernel) (by decide+kernel) (by first|calc .inl (by decide+kernel)|calc .inr<|by decide+kernel)<|by rw[Hy];kernel_rfl
theorem Aj:entryFor table "set_iterator.__next__"=some jd.«set_iterator.__next__»:=entryFor_of_tree<|by kernel_rfl
theorem Bi(a:Value):argsOk "set_iterator.__next__" ⟨[a],[]⟩:=by unfold argsOk;rw[signature?_of (id:="set_iterator.__next__") (n:=['_','_','t','x','e','n','_','_']) (o:=['r','o','t','a','r','e','t','i','_','t','e','s']) (by kernel_rfl) Ke];kernel_rfl
theorem UW:entryFor table "set.__iter__"=some jd.«frozenset.__iter__»:=entryFor_alias (id':="frozenset.__iter__") (by kernel_rfl) rfl (by decide+kernel)<|by kernel_rfl
theorem EC{α:Type}:∀{l:List α} {i:Nat} (h:i<l.length),(l[i]::l.eraseIdx i).Perm l
 |a::l,0,_=>ub _
 |a::l,i+1,h=>by
  have h':i<l.length:=by simpa using h
  show(l[i]::a::l.eraseIdx i).Perm (a::l);calc(Hc _ _ _).trans<|(EC h').cons a
theorem TU{α:Type}{next:Nat->Nat}{g k:Nat}{left:List α}{out:Array α}{x:α}(o:Option α)(h:o=some x):(match (generalizing:=false) o with|some x=>pickOrder.go next g (k+1) (left.eraseIdx<|next k%left.length) (out.push x)|none=>out)=pickOrder.go next g (k+1) (left.eraseIdx<|next k%left.length) (out.push x):=by subst h;rfl
theorem Zl{α:Type}(next:Nat->Nat):∀(g k:Nat) (left:List α) (out:Array α),g=left.length->(pickOrder.go next g k left out).toList.Perm (out.toList++left):=by
 intro l;induction l with
 |zero=>
  intro k left out h;have:left=[]:=BM.mp h.symm;clear h;subst this;rw[ea];calc ub _
 |succ g m=>
  intro k left out h;have j:next k%left.length<left.length:=zd _<|(aq 7464476) h;rw[show pickOrder.go next (g+1) k left out=pickOrder.go next g (k+1) (left.eraseIdx<|next k%left.length) (out.push left[next k%left.length]) from TU _ (cR j)];calc(m (k+1) _ _<|by rw[G8 j];calc(aq 1770198587) h).trans ?_;rw[kH,eK];calc wu _ ?_;show(left[next k%left.length]::left.eraseIdx (next k%left.length)).Perm left;calc EC j
theorem Ep{α:Type}(next:Nat->Nat)(xs:Array α):(uv next xs).toList.Perm xs.toList:=by unfold uv;simpa using(Zl next xs.size 0 xs.toList #[] (by simp))
section
variable{M:oh}{A:cj}{E:Value->aA->Prop}{s:aA}
theorem Xf{g:Source}{n:Nat}{Q:Nat->aA->Prop}(j:n≠0)(h:∀i s',i<n->s'.heap=s.heap->s'.gens=s.gens->s'.os=s.os->s'.toks=s.toks->Q i s'):ao M A (choose g n) Q E s:=λl p m=>by show CY M l (.choose g n .pure) _ _ p s;rw[Sem.wp_choose];calc⟨j,h _ _ (zd _<|Nat.pos_of_ne_zero j) rfl rfl rfl rfl⟩
theorem Ur{α:Type}:∀(n:Nat) (xs:List α) (s:aA) {Q:List α->aA->Prop},n=xs.length->(∀ys s',ys.Perm xs->s'.heap=s.heap->s'.gens=s.gens->s'.os=s.os->Q ys s')->ao M A (drawOrder n xs) Q E s:=by
 intro j;induction j with
 |zero=>
  intro xs s Q g h;have:xs=[]:=BM.mp g.symm;clear g;subst this;calc ap<|h [] s (ub _) rfl rfl rfl
 |succ n m=>
  intro l;cases l with
  |nil=>
   intro s Q g h;simp at g
  |cons x xs=>
   intro s Q g h;show ao _ _ (_>>=_) _ _ s;calc af<|Xf (by simp) λi s' hi h1 p q H=>?_;rw[cR hi];dsimp only;calc af<|m _ s' (by rw[G8 hi];calc(aq 1770198587) g) λys r hp z C D=>ap<|h _ _ ((yQ _ hp).trans<|EC hi) (z.trans h1) (C.trans p)<|D.trans q
end
end
section
noncomputable def mO(f:Value)(i:Nat)(S:Addr)(n ep:Nat):Obj:={cls:= .type "set_iterator",data:= .fields #[f,cF i,.ref S,cF n,cF ep]}
theorem Cut.uniq(h:Cut xs j p)(h':Cut xs j q):p=q:=by
 obtain⟨l,a2,a3⟩:=h;obtain⟨m,b2,b3⟩:=h';rcases Nat.lt_trichotomy p q with g|rfl|g
 .have:=b2 p g;exact(aV 26599903834) (by assumption)<|a3 p (bS _)<|by exact(ax 0x731231235751) l m g
 .rfl
 .have:=a2 q g;calc(aV 26599903834) (by assumption)<|b3 q (bS _)<|by calc(ax 0x731235231751) l m g
noncomputable def rp(t:gr)(i:Nat):Nat:=if i=0 then 0 else t.place.getD (i -1) 0+1
theorem TH(g:pS t.place)(hi:i<=t.place.size):ni t.place (rp t i)=i:=by
 refine(EN _ g).uniq ⟨hi,λk hk=>?_,λk hk hz=>?_⟩
 .unfold rp;rw[if_neg (by calc(aq 225318675) hk)];by_cases e:k=i -1
  .rw[e];exact sO
  .exact tA<|g k (i -1) (by calc(aq 0x79831731d69831) hk e)<|by exact(ax 7943561090837) hi hk
 .unfold rp;by_cases h0:i=0
  .rw[if_pos h0];exact(aB 542)
  .rw[if_neg h0];calc(aq 2340657)<|g (i -1) k (by calc(aq 0x73981231d6e1) hk h0) hz
section
variable{prog:eN}{w:bR}{A:cj}{E:Value->aA->Prop}{s:aA}
theorem DK(j:s.heap.get? I=some o)(hc:o.cls= .type "set_iterator")(h:Q (.ref I) s):ao (aO prog w) A (mc<|.ref I) Q E s:=by have g:s.TypeIs (.ref I) "set_iterator":=⟨o,j,hc⟩;calc Hf g LO<|eL LO g SA ?_<|XR _;show ao _ _ (ret<|.ref I) _ _ s;calc ap ⟨_,⟨rfl,bv ("set_iterator") _<|aR g ny.lookup h⟩⟩
theorem NJ{I S:Addr}{i n ep sl nx:Nat}{es:Array<|Int×Value}{Q:Option Value->aA->Prop}(hi:s.heap.get? I=some (mO (cF sl) i S n ep))(j:s.heap.get? S=some (my es ep t))(T:eW w es.size t)(l:n=es.size)(m:∀{p:cj} {q:Value->aA->Prop} {g:Option (Value×Nat)->aA->Prop},g (some (v,nx)) s->ao (aO prog w) p (uC S sl i ep) g q s)(r:∀h',h'.get? I=some (mO (cF nx) (i+1) S n ep)->lU I s.heap h'->Q (some v) {s with heap:=h'}):ao (aO prog w) A (gM<|.ref I) Q E s:=by have h:s.TypeIs (.ref I) "set_iterator":=⟨_,hi,rfl⟩;unfold gM;calc af<|nZ<|jW (name:=ak "__next__") h ny<|eL ny h Aj ?_<|Bi _;unfold jd.«set_iterator.__next__»;calc af<|ap ?_;dsimp only;calc af<|yS hi rfl ?_;show ao _ _ (ui S>>=_) _ _ s;unfold ui;calc af<|af<|lu j rfl T.fits<|ap<|cw (decide_eq_false<|by simp[l]) ?_;show ao _ _ (uC S sl i ep>>=_) _ _ s;calc af<|m ?_;dsimp only;calc af<|qu hi rfl (by calc lb rfl) ?_;have h1:(s.heap.update I (yT (·.setIfInBounds 0 (cF nx)))).get? I=some (mO (cF nx) i S n ep):=fK _ hi rfl;calc af<|qu h1 rfl (by calc lb rfl) ?_;show ao _ _ (ret v) _ _ _;calc ap ⟨_,rfl,ap<|r _ (fK _ h1 rfl)<|(dA ..).trans<|dA ..⟩
theorem MC{I S:Addr}{i n ep sl:Nat}{es:Array<|Int×Value}{Q:Option Value->aA->Prop}(hh:A.handled=none)(hi:s.heap.get? I=some (mO (cF sl) i S n ep))(m:s.heap.get? S=some (my es ep t))(T:eW w es.size t)(p:n=es.size)(q:∀{r:cj} {z:Value->aA->Prop} {j:Option (Value×Nat)->aA->Prop},j none s->ao (aO prog w) r (uC S sl i ep) j z s)(C:∀h',yW I s.heap h'->Q none {s with heap:=h'}):ao (aO prog w) A (gM<|.ref I) Q E s:=by have l:s.TypeIs (.ref I) "set_iterator":=⟨_,hi,rfl⟩;unfold gM;calc af<|nZ<|jW (name:=ak "__next__") l ny<|eL ny l Aj ?_<|Bi _;unfold jd.«set_iterator.__next__»;calc af<|ap ?_;dsimp only;calc af<|yS hi rfl ?_;show ao _ _ (ui S>>=_) _ _ s;unfold ui;calc af<|af<|lu m rfl T.fits<|ap<|cw (decide_eq_false<|by simp[p]) ?_;show ao _ _ (uC S sl i ep>>=_) _ _ s;calc af<|q ?_;dsimp only;calc af<|qu hi rfl (by calc lb rfl)<|zM (it:=I) (h:=s.heap) (f:=λZ=>pure<|.done .next) (by calc hh) (dA ..).extBut λh' e he hs=>ai hs λD g=>?_;calc af<|sc (T:="StopIteration") (b:=true) ⟨D,g.1,g.2⟩ Cp<|ap<|C h' he
end
end
section
section
variable{prog:eN}{w:bR}{A:cj}{E:Value->aA->Prop}{s:aA}
theorem AT(h:Q (w.params.followText "set-order") s):ao (aO prog w) A setsByText Q E s:=by unfold setsByText;calc af<|Ch<|ap h
theorem Ts(g:s.heap.get? S=some (my es ep t))(T:eW w es.size t)(hb:w.params.followText "set-order"=true)(h:Q (uv (w.params.setOrder S ep) es) s):ao (aO prog w) A (setWalk S) Q E s:=by unfold setWalk;calc af<|lu g rfl T.fits<|af<|AT ?_;rw[hb];calc fM rfl<|af<|Ch<|ap h
theorem JY(g:s.heap.get? S=some (my es ep t))(T:eW w es.size t)(hb:w.params.followText "set-order"=true)(h:Q (((uv (w.params.setOrder S ep) es)[i]?).map λe=>(e.2,sl)) s):ao (aO prog w) A (uC S sl i ep) Q E s:=by unfold uC;calc af<|lu g rfl T.fits<|af<|AT ?_;rw[hb];calc fM rfl<|cw (decide_eq_false<|by calc kL)<|af<|Ts g T hb<|ap h
theorem Kj(l:s.heap.get? S=some (my es ep t))(T:eW w es.size t)(hb:w.params.followText "set-order"=false)(hd:t.plain=true\/es.size<=1)(hi:i<=es.size)(h:Q ((es[i]?).map λe=>(e.2,rp t<|i+1)) s):ao (aO prog w) A (uC S (rp t i) i ep) Q E s:=by
 unfold uC;calc af<|lu l rfl T.fits<|af<|AT ?_;rw[hb];refine cw rfl<|qt (λj=>?_) λZ=>?_
 .exfalso;have:(!t.plain&&decide (es.size>1))=true:=j;rcases hd with e|e
  .rw[e] at this;exact ek this
  .rw[decide_eq_false (by calc(aB 225542785) e),Pe] at this;exact ek this
 .have m:t.led=true:=by rw[T.led,hb];rfl
  refine af<|yY (a:=()) (if_neg<|by rw[m];simp) ?_
  .dsimp only;rw[TH T.up (by rw[T.size];calc hi)];by_cases g:i<es.size
   .have hp:i<t.place.size:=by rw[T.size];exact g
    rw[ct g,ct hp];rw[ct g] at h;dsimp only;calc ap ?_;have e:rp t (i+1)=t.place[i]+1:=by unfold rp;rw[if_neg (by calc(aB 55019)),Nat.add_sub_cancel];unfold pi;rw[dif_pos hp];rfl
    rw[e] at h;exact h
   .rw[qo (by calc(aq 150627145491) hi g)] at h|-;calc ap h
theorem ZJ(hh:A.handled=none)(I S:Addr)(j:S≠I)(T:eW w es.size t)(hb:w.params.followText "set-order"=true):wW prog w A I [I,S] [I] es.size (λi v=>(uv (w.params.setOrder S ep) es)[i]?.map (·.2)=some v) (λi h=>h.get? I=some (mO (cF (0:Nat)) i S es.size ep)/\h.get? S=some (my es ep t)) where
 sub:=λb hb=>by simp at hb;simp[hb]
 frame:=λZ Z Z st hk=>⟨hk I (by calc .head _) _ st.1,hk S (by calc .tail _<|.head _) _ st.2⟩
 item:=λi s Q E hi st g=>by
  have hz:(uv (w.params.setOrder S ep) es).size=es.size:=by have:=(Ep (w.params.setOrder S ep) es).length_eq;rwa [cu,cu] at this
  have m:=ct (xs:=uv (w.params.setOrder S ep) es) (i:=i) (by rw[hz];calc hi);exact NJ (sl:=0) (nx:=0) st.1 st.2 T rfl (λh=>JY st.2 T hb<|by rw[m];calc h) λh' l hs=>g _ h' s.toks (by rw[m];rfl) ⟨l,hs.extBut S _ j st.2⟩ λb o hb e=>hs.extBut b o (by simpa using hb) e
 done:=λs Q E st g=>by
  have hz:(uv (w.params.setOrder S ep) es).size=es.size:=by have:=(Ep (w.params.setOrder S ep) es).length_eq;rwa [cu,cu] at this
  calc MC (sl:=0) hh st.1 st.2 T rfl (λh=>JY st.2 T hb<|by rw[qo (by rw[hz];calc bS _)];calc h) λh' he=>?_;exact g h' s.toks λb o hb e=>he b o (by simpa using hb) e
 self:=λZ Z Z Z st g=>DK st.1 rfl g
theorem Rg(hh:A.handled=none)(I S:Addr)(j:S≠I)(T:eW w es.size t)(hb:w.params.followText "set-order"=false)(hd:t.plain=true\/es.size<=1):wW prog w A I [I,S] [I] es.size (λi v=>es[i]?.map (·.2)=some v) (λi h=>h.get? I=some (mO (cF (rp t i:Nat)) i S es.size ep)/\h.get? S=some (my es ep t)) where
 sub:=λb hb=>by simp at hb;simp[hb]
 frame:=λZ Z Z st hk=>⟨hk I (by calc .head _) _ st.1,hk S (by calc .tail _<|.head _) _ st.2⟩
 item:=λi s Q E hi st g=>by have m:=ct (xs:=es) (i:=i) hi;exact NJ st.1 st.2 T rfl (λh=>Kj st.2 T hb hd (lV hi)<|by rw[m];calc h) λh' l hs=>g _ h' s.toks (by rw[m];rfl) ⟨l,hs.extBut S _ j st.2⟩ λb o hb e=>hs.extBut b o (by simpa using hb) e
 done:=λs Q E st g=>by calc MC hh st.1 st.2 T rfl (λh=>Kj st.2 T hb hd (bS _)<|by rw[qo (bS _)];calc h) λh' he=>?_;exact g h' s.toks λb o hb e=>he b o (by simpa using hb) e
 self:=λZ Z Z Z st g=>DK st.1 rfl g
theorem ZE(hh:A.handled=none)(I S P:Addr)(r:S≠I)(z:P≠I){es:Array<|Int×Value}(T:eW w es.size t){pl:List Nat}{oP:Obj}(m:oP.data= .seq (pl.map λ(i:Nat)=>cF i).toArray N)(hp:pl.Perm<|cS es.size):wW prog w A I [I,S,P] [I] es.size (λi v=>(pl[i]?.bind λj=>es[j]?).map (·.2)=some v) (λi h=>h.get? I=some (mO (.ref P) i S es.size ep)/\h.get? S=some (my es ep t)/\h.get? P=some oP) where
 sub:=λb hb=>by simp at hb;simp[hb]
 frame:=λZ Z Z st hk=>aR (hk I (by calc .head _) _ st.1) (hk S (by calc .tail _<|.head _) _ st.2.1)<|hk P (by calc .tail _<|.tail _<|.head _) _ st.2.2
 item:=λi s Q E hi st p=>by
  have g:pl.length=es.size:=by have:=hp.length_eq;rwa [lS] at this
  have J:=cR (l:=pl) (i:=i) (by rw[g];calc hi);have hj:pl[i]'(by rw[g];calc hi)<es.size:=eM.mp<|hp.mem_iff.mp<|gJ _;have q:s.TypeIs (.ref I) "set_iterator":=⟨_,st.1,rfl⟩;unfold gM;calc af<|nZ<|jW (name:=ak "__next__") q ny<|eL ny q Aj ?_<|Bi _;unfold jd.«set_iterator.__next__»;calc af<|ap ?_;dsimp only;calc af<|yS st.1 rfl ?_;show ao _ _ (ui S>>=_) _ _ s;unfold ui;calc af<|af<|lu st.2.1 rfl T.fits<|ap<|cw (decide_eq_false<|by calc kL) ?_;show ao _ _ (CP (.ref P)>>=_) _ _ s;calc af<|lx st.2.2 m ?_;dsimp only;rw[show((i:Int)).toNat=i from rfl,GD,dm,J];show ao _ _ (setNextDrawn S _ ep>>=_) _ _ s;unfold setNextDrawn;calc af<|af<|lu st.2.1 rfl T.fits ?_;dsimp only;rw[if_neg (by calc kL),hH,ct hj];dsimp only;calc ap<|af<|qu st.1 rfl (by calc lb rfl) ?_;have h1:(s.heap.update I (yT (·.setIfInBounds 1 (cF<|(i:Int)+1)))).get? I=some (mO (.ref P) (i+1) S es.size ep):=fK _ st.1 rfl;have hs:=dA s.heap I (yT (·.setIfInBounds 1 (cF<|(i:Int)+1)));show ao _ _ (ret _) _ _ _;calc ap ⟨_,rfl,ap<|p _ _ s.toks ?_ (aR h1 (hs.extBut S _ r st.2.1)<|hs.extBut P _ z st.2.2) λb o hb e=>hs.extBut b o (by simpa using hb) e⟩;rw[J];show(es[pl[i]]?).map (·.2)=_;rw[ct hj];rfl
 done:=λs Q E st p=>by
  have g:pl.length=es.size:=by have:=hp.length_eq;rwa [lS] at this
  have q:s.TypeIs (.ref I) "set_iterator":=⟨_,st.1,rfl⟩;unfold gM;calc af<|nZ<|jW (name:=ak "__next__") q ny<|eL ny q Aj ?_<|Bi _;unfold jd.«set_iterator.__next__»;calc af<|ap ?_;dsimp only;calc af<|yS st.1 rfl ?_;show ao _ _ (ui S>>=_) _ _ s;unfold ui;calc af<|af<|lu st.2.1 rfl T.fits<|ap<|cw (decide_eq_false<|by calc kL) ?_;show ao _ _ (CP (.ref P)>>=_) _ _ s;calc af<|lx st.2.2 m ?_;dsimp only;rw[show((es.size:Int)).toNat=es.size from rfl,GD,dm,qp (by calc(aq 2299441) g)];show ao _ _ (HV (.ref I) 0 (cF 0)>>=_) _ _ s;calc af<|qu st.1 rfl (by calc lb rfl) ?_;have h1:(s.heap.update I (yT (·.setIfInBounds 0 (cF 0)))).get? I=some (mO (cF (0:Nat)) es.size S es.size ep):=fK _ st.1 rfl;exact af<|qu h1 rfl (by calc lb rfl)<|zM (it:=I) (h:=s.heap) (f:=λZ=>pure<|.done .next) (by calc hh) ((dA ..).trans<|dA ..).extBut λh' e he hs=>ai hs λL C=>aw C λD H=>af<|sc (T:="StopIteration") (b:=true) ⟨L,D,H⟩ Cp<|ap<|p h' s.toks λb o hb e=>he b o (by simpa using hb) e
 self:=λZ Z Z Z st p=>DK st.1 rfl p
end
end
section
theorem Fc{es:Array<|Int×Value}{o:Array<|Int×Value}(hp:o.toList.Perm es.toList){g:Array Value}(hz:g.size=es.size)(h:∀(j:Nat) (v:Value),g[j]? =some v->(o[j]?).map (λe:Int×Value=>e.2)=some v):g.toList.Perm (es.toList.map (·.2)):=by
 have l:=hp.length_eq;rw[cu,cu] at l
 have e:g.toList=o.toList.map (·.2):=by
  apply yO;intro j;rw[fj,dm,fj];cases m:g[j]? with
  |some v=>rw[h j v m]
  |none=>
   have:g.size<=j:=Array.getElem?_eq_none_iff.mp m;rw[qo ((aV 38580171444789) hz l this)];rfl
 rw[e];calc hp.map _
theorem XO{es:Array<|Int×Value}{pl:List Nat}(hp:pl.Perm<|cS es.size){g:Array Value}(hz:g.size=es.size)(h:∀(j:Nat) (v:Value),g[j]? =some v->(pl[j]?.bind λj=>es[j]?).map (λe:Int×Value=>e.2)=some v):g.toList.Perm (es.toList.map (·.2)):=by
 have p:pl.length=es.size:=by have:=hp.length_eq;rwa [lS] at this
 calc Fc (o:=pl.toArray.filterMap (es[·]?)) (Ln (order:=pl.toArray)<|by simpa using hp) hz λj v r=>?_;rw[<-h j v r];congr 1;have e:(pl.toArray.filterMap (es[·]?)).toList=pl.filterMap (es[·]?):=by rw[J4]
 rw[<-fj,e]
 have gen:∀(l:List Nat),(∀k∈l,k<es.size)->∀j:Nat,(l.filterMap (es[·]?))[j]? =l[j]?.bind λj=>es[j]? :=by
  intro l;induction l with
  |nil=>intro _ j;simp
  |cons a l z=>
   intro m j;have q:es[a]? =some (es[a]'(m a dC)):=ct<|m a dC;rw[oX,q];cases j with
   |zero=>simp[q]
   |succ j=>simpa using z (λk hk=>m k<|dw _ hk) j
 calc gen pl (λk hk=>eM.mp<|hp.mem_iff.mp hk) j
section
variable{prog:eN}{w:bR}{A:cj}{E:Value->aA->Prop}{s:aA}
theorem Rs{S:Addr}{es:Array<|Int×Value}{Q:Value->aA->Prop}(hS:oD w s.heap S es)(q:∀(I:Addr) s' fp P St,(∀J:cj,J.handled=none->wW prog w J I fp [I] es.size P St)->St 0 s'.heap->s'.gens=s.gens->s'.os=s.os->(∀b o,s.heap.get? b=some o->s'.heap.get? b=some o)->(∀b∈fp,b=S\/s.heap.get? b=none)->s.heap.get? I=none->(∀m:Array Value,m.size=es.size->(∀j v,m[j]? =some v->P j v)->m.toList.Perm (es.toList.map (·.2)))->Q (.ref I) s'):ao (aO prog w) A (mc<|.ref S) Q E s:=by
 obtain⟨ep,t,z,T⟩:=hS;have hT:s.TypeIs (.ref S) "set":=⟨_,z,rfl⟩;have g:s.heap.get? s.heap.objs.size=none:=gA _<|bS _;have L:S≠s.heap.objs.size:=hZ<|fN z;calc Hf hT I4<|eL I4 hT UW ?_<|PySem.F.args_set_iter_1 _;unfold jd.«frozenset.__iter__» aac;calc af<|af<|ap<|ap ?_;unfold aad;calc af<|af<|wpAny_setEntries_of z rfl T.fits<|ap ?_;unfold setDrawn;refine af<|af<|lu z rfl T.fits<|af<|AT<|ap ?_
 have h:(w.params.followText "set-order"=true\/(t.plain=true\/es.size<=1))->ao (aO prog w) A.in1 (do
   let first <-(pure (cF 0):Sem Value);ret<|<-newFields "set_iterator" [first,cF 0,.ref S,cF es.size,cF (<-setEpoch S)]) (λfin s'=>∃r,fin= .done (.ret r)/\∃(T:String) (u:Value),s'.TypeIs r T/\CK (.type T) "__next__"=pure (some u)/\Q r s') E s:=λhc=>by
  calc af<|ap<|af<|wpAny_setEpoch_of z rfl T.fits<|af<|nX<|ap ⟨_,⟨rfl,bv ("set_iterator") _<|aR ⟨_,dy _ rfl,rfl⟩ ny.lookup ?_⟩⟩;have p:(s.heap.push<|mO (cF (0:Nat)) 0 S es.size ep).get? s.heap.objs.size=some (mO (cF (0:Nat)) 0 S es.size ep):=dy _ rfl;have C:(s.heap.push<|mO (cF (0:Nat)) 0 S es.size ep).get? S=some (my es ep t):=bW _ z
  have N:∀b∈[s.heap.objs.size,S],b=S\/s.heap.get? b=none:=λb hb=>by
   rcases dD.mp hb with rfl|hb
   .exact .inr g
   .exact .inl<|ci.mp hb
  by_cases hb:w.params.followText "set-order"=true
  .exact q s.heap.objs.size _ _ _ _ (λJ hh=>ZJ hh _ S L T hb) ⟨p,C⟩ rfl rfl (λb o e=>bW _ e) N g λm hz U=>Fc (Ep _ _) hz U
  .have hb:w.params.followText "set-order"=false:=by simpa using hb
   exact q s.heap.objs.size _ _ _ _ (λJ hh=>Rg hh _ S L T hb<|hc.resolve_left<|by rw[hb];calc lr) ⟨p,C⟩ rfl rfl (λb o e=>bW _ e) N g λm hz U=>Fc (ub _) hz U
 refine qt (λ_=>?_) λ_=>?_
 .rename_i l
  calc af<|Ur es.size (cS es.size) s (by simp) λpl s₁ hp h1 h2 h3=>?_;have D:pl.length=es.size:=by have:=hp.length_eq;rwa [lS] at this
  calc af<|nX ?_ (by show(qB _ _).toArray.size<=ly;rw[rX,au,D,dO];calc(aq 592573973536753) D T.Ab);have X:s₁.heap.get? S=some (my es ep t):=by rw[h1];exact z
  calc af<|wpAny_setEpoch_of (s:={s₁ with heap:=s₁.heap.push {cls:= .type "tuple",data:= .seq (pl.map λ(i:Nat)=>cF i).toArray}}) (bW _ X) rfl T.fits ?_;calc af<|nX<|ap ⟨_,⟨rfl,bv ("set_iterator") _<|aR ⟨_,dy _ rfl,rfl⟩ ny.lookup ?_⟩⟩;have Y:(s₁.heap.push {cls:= .type "tuple",data:= .seq (pl.map λ(i:Nat)=>cF i).toArray}).objs.size=s₁.heap.objs.size+1:=hV ..;have H:s₁.heap.objs.size=s.heap.objs.size:=by rw[h1]
  have Z:s.heap.get? (s₁.heap.push {cls:= .type "tuple",data:= .seq (pl.map λ(i:Nat)=>cF i).toArray}).objs.size=none:=gA _ (by rw[Y,H];calc oa _);have g0:s.heap.get? s₁.heap.objs.size=none:=by rw[H];exact g
  have n1:S≠(s₁.heap.push {cls:= .type "tuple",data:= .seq (pl.map λ(i:Nat)=>cF i).toArray}).objs.size:=by rintro e;rw[<-e] at Z;rw[z] at Z;exact cU Z
  have n2:s₁.heap.objs.size≠(s₁.heap.push {cls:= .type "tuple",data:= .seq (pl.map λ(i:Nat)=>cF i).toArray}).objs.size:=by rw[Y];exact hZ<|pa _
  refine q _ _ _ _ _ (λJ hh=>ZE hh _ S s₁.heap.objs.size n1 n2 T (oP:={cls:= .type "tuple",data:= .seq (pl.map λ(i:Nat)=>cF i).toArray}) rfl hp) (aR (dy _ rfl) (bW _<|bW _ X)<|bW _<|dy _ rfl) h2 h3 (λb o e=>bW _ (bW _ ((congrArg (·.get? b) h1).trans e))) (fa (.inr Z)<|fa (.inl rfl)<|fa (.inr g0) dF) Z λm hz U=>XO hp hz U
 .rename_i l;calc h ?_;have l:¬((!w.params.followText "set-order"&&(!t.plain&&decide (es.size>1)))=true):=l;by_cases hb:w.params.followText "set-order"=true
  .exact .inl hb
  .right
   have hb:w.params.followText "set-order"=false:=by simpa using hb
   rw[hb] at l;cases a0:t.plain with
   |true=>calc .inl rfl
   |false=>
    rw[a0] at l;right;by_cases h1:es.size>1
    .rw[decide_eq_true h1] at l;exact absurd rfl l
    .exact(aB 42063640) h1
end
end
section
variable{c:Cx}
theorem sub_set_set:isSubtype (.type "set") (.type "set")=pure true:=by rw[Hy];kernel_rfl
theorem Jq(hh:A.handled=none)(U:oD c.w s.heap S es)(q:∀s' vs,s'.gens=s.gens->s'.os=s.os->(∀b o,s.heap.get? b=some o->s'.heap.get? b=some o)->vs.Perm (es.toList.map (·.2))->Q vs s'):ao (aO c.prog c.w) A (collect<|.ref S) Q EF s:=by
 obtain⟨ep,t,z,T⟩:=id U;have j:S<s.heap.objs.size:=fN z;calc IU (T:="set") ⟨_,z,rfl⟩ (by simp[BI];calc(hZ j).symm) (by decide) (by decide) (by decide) ?_;have L:(s.heap.push {cls:= .type "list",data:= .seq ([]:List Value).toArray}).get? s.heap.objs.size=some {cls:= .type "list",data:= .seq ([]:List Value).toArray}:=dy _ rfl;calc Rs (s:={s with heap:=s.heap.push {cls:= .type "list",data:= .seq ([]:List Value).toArray}}) ⟨ep,t,bW _ z,T⟩ λI s₁ X P Y W C hg D hk H N l=>?_;have g:s₁.TypeIs (.ref S) "set":=⟨_,hk _ _<|bW _ z,rfl⟩;unfold E4;calc af<|pb g PySem.F.slot_set_len.lookup ?_;dsimp only;rw[show splitId "set.__len__"=some ("set","__len__") from by decide+kernel];dsimp only;refine af<|sc (b:=true) g sub_set_set<|cw rfl<|fM rfl<|af<|ug g<|ap<|⟨I,X,[I],es.size,P,Y,0,rfl,W A.in1 hh,by unfold small;calc(aB 139033976817) T.Ab,C,?_,hk _ _ L,λs' m J p r hz Z=>?_⟩
 .intro hm;rcases H _ hm with h|h
  .exact(hZ j).symm h
  .rw[L] at h;exact cU h
 .refine q s' m.toList (J.trans hg) (p.trans D) (λb o e=>?_)<|l m hz Z;calc r b o (hZ<|fN e) ?_<|hk b o<|bW _ e;intro hm;rw[ci] at hm;clear r W;subst hm;rw[bW _ e] at N;calc cU N
noncomputable def zD(c:Cx)(B:Look)(ds:List Dt)(i:Nat)(es:Array<|Int×Value):Prop:=∃g,Fj c.w B g es/\(∀d,d∈g↔d∈ds.take i)/\es.size<=i
theorem zH{α:Type}{l:List α}{i:Nat}{x:α}(h:l[i]? =some x)(d:α):d∈l.take (i+1)↔d∈l.take i\/d=x:=by rw[OH,h];simp
theorem YS{A:cj}{s₀:aA}{B:Look}{i:Nat}(up:B.le s₀.heap.get?)(J:A.units+3<dP)(L:ds[i]? =some x)(p:be c.w B x v)(m:Flat x)(hi:i<18):zp c A s₀ S v (zD c B ds i) (zD c B ds<|i+1):=λs es Q hk U X N=>by
 obtain⟨ep,t,P,T⟩:=U;obtain⟨g,R,hm,hz⟩:=X;have le:B.le s.heap.get? :=λa o e=>hk a o<|up a o e;unfold setAdd;refine co<|af<|xl x m.key (by have:=m.depth;calc(ax 0x754317540cf1283) J this) (p.mono le)<|VQ (s:={s with toks:=s.toks+fu x}) (ds:=g) J P rfl T ((aq 0x71ff171ff3231) hi hz) ⟨aT.mono le R.1,R.2⟩ m (p.mono le) (λq=>?_) λh' r z Y C D Z=>?_
 .refine N false s.heap es _ (Oj _ _) ⟨ep,t,P,T⟩ ⟨g,R,λd=>?_,yB hz⟩;rw[zH L,hm d];exact⟨.inl,λh=>h.elim id λe=>e▸(hm x).mp q⟩
 .obtain⟨T',H,hp⟩:=Z;have a0:((x::g).length=(x::g).length):=rfl;have rv:aT c.w B (x::g) ((ig c.w x,v)::es.toList|>.map (·.2)):=⟨v,_,rfl,p,R.1⟩;calc ai (aT.perm (hp.map (·.2)).symm rv) λI j=>?_;have l:=j.1;have r2:=j.2;refine N true h' r _ C ⟨z,Y,D,T'⟩ ⟨I,⟨r2,λd hd=>?_⟩,λd=>?_,(ax 3028544783345) hz H⟩
  .rcases dD.mp (l.mem_iff.mp hd) with rfl|hd
   .exact m
   .exact R.2 d hd
  .rw[l.mem_iff,dD,zH L,hm d];calc Or.comm
noncomputable def AS(c:Cx)(B:Look)(ns:List Int)(i:Nat)(es:Array<|Int×Value):Prop:=∃g:List Int,aT c.w B (g.map .int) (es.toList.map (·.2))/\ElemsOf (zk c.prog c.w) es.toList/\(∀n,n∈g↔n∈ns.take i)/\es.size<=i
theorem Uh{A:cj}{s₀:aA}{S:Addr}{n:Int}{tH:Tok}{B:Look}{ns:List Int}{i:Nat}(P:ns[i]? =some n)(hi:i<4):zp c A s₀ S (.int n tH) (AS c B ns i) (AS c B ns<|i+1):=λs es Q hk Y Z U=>by
 obtain⟨ep,t,X,T⟩:=Y;obtain⟨p,R,l,hm,hz⟩:=Z;unfold setAdd;refine co<|af<|wpAny_pyHash_int<|add_int (s:={s with toks:=s.toks+1}) X rfl T ((aq 0x702f1702f3231) hi hz) l (λhh=>?_) λh' z C t' D H Ad=>?_
 .refine U false s.heap es _ (Oj _ _) ⟨ep,t,X,T⟩ ⟨p,R,l,λd=>?_,yB hz⟩;rw[zH P,hm d];calc⟨.inl,λh=>h.elim id ?_⟩;rintro rfl;calc ai hh λe g=>aw g λhe j=>ai j λu hu=>ai (aT.pick R e.2<|cL he) λd' g=>aw g λI rd=>ai (bb.mp I) λm g=>aw g λhm' j=>?_;clear g;subst j;obtain⟨t2,q⟩:=rd;rw[hu] at q;cases q;exact(hm _).mp hm'
 .obtain⟨T',J,hp⟩:=Ad;have rv:aT c.w B ((n::p).map .int) ((kK n,HP n tH)::es.toList|>.map (·.2)):=⟨_,_,rfl,⟨tH,rfl⟩,R⟩;calc ai (aT.perm (hp.map (·.2)).symm rv) λa0 g=>?_;have r:=g.1;have r2:=g.2;calc ai (rQ r) λL g=>?_;have N:=g.1;have j:=g.2;clear g;clear r g;subst j;refine U true h' z _ D ⟨C,t',H,T'⟩ ⟨L,r2,λe he=>?_,λd=>?_,(ax 3028544783345) hz J⟩
  .rcases dD.mp (hp.mem_iff.mp he) with rfl|he
   .exact⟨⟨n,intKind_is _ _ _ _,rfl⟩,rfl⟩
   .exact l e he
  .rw[N.mem_iff,dD,zH P,hm d];calc Or.comm
end
section
variable{c:Cx}{k:Nat}{V:Env}{O:al}{ρ:az}
noncomputable def Fx(l:List Dt):Prop:=Flat<|.tup l
theorem A2(h:∀l∈ks,Fx l):Rows ks where
 keys:=λl g=>(h l g).key
 deep:=λl g=>aL (rU (h l g).depth)<|lb rfl
 head:= .inl λl g=>by obtain⟨o,ns,e,_⟩:=h l g;cases e;exact bv o ns rfl
 cmp:=λl g m hm=>by obtain⟨o,ns,e,_,q⟩:=h l g;obtain⟨C,r,j,_,p⟩:=h m hm;cases e;cases j;calc⟨λZ=>FJ λx z y hy=>ai (q x z) λZ e=>ai (p y hy) λZ j=>e▸j▸trivial,λZ=>trivial⟩
theorem Sv{s:aA}{rows:List<|List Dt}{Q:PV->al->Prop}(r:cP k A)(T:Sat c B O R s)(hS:oD c.w s.heap S es)(hF:∀l∈rows,Fx l)(hG:zD c B (rows.map .tup) rows.length es)(q:∀ks:List<|List Dt,(∀l,l∈ks↔l∈rows)->Q (.d<|.lst<|ks.map .tup) O):ao (aO c.prog c.w) A (call (.builtin "sorted") [.ref S]) (gc c Q B R) EF s:=by
 obtain⟨U,⟨hR,X⟩,hm,hz⟩:=hG;have hm':∀d,d∈U↔d∈rows.map .tup:=λd=>by rw[hm d,nV (by simp)]
 have H:es.size<=18:=aE hS λ_ _ q=>q.2.Ab;have hu:=r.units;calc Fu (κ:=wV true)<|Jq (r.handled) hS λs₁ vs hg Y hk hp=>?_;obtain⟨C,D,I⟩:=aT.perm hp.symm hR
 obtain⟨j,rfl⟩:∃j:List<|List Dt,C=j.map .tup:=by
  have:∀d∈C,∃l,d= .tup l:=λd hd=>by obtain⟨o,ns,e,_⟩:=X d<|D.mem_iff.mp hd;exact⟨_,e⟩
  clear D I;induction C with
  |nil=>calc⟨[],rfl⟩
  |cons d ds ih=>
   obtain⟨l,rfl⟩:=this _ dC;obtain⟨ks,rfl⟩:=ih λd hd=>this d<|dw _ hd;exact⟨l::ks,rfl⟩
 have J:∀l,l∈j↔l∈rows:=λl=>by
  have h1:Dt.tup l∈j.map .tup↔Dt.tup l∈rows.map .tup:=(D.mem_iff).trans<|hm' _;have inj:∀(xs:List<|List Dt),Dt.tup l∈xs.map .tup↔l∈xs:=λxs=>by rw[bb];exact⟨λz=>ai z λa y=>Dt.tup.inj y.2▸y.1,λh=>⟨l,h,rfl⟩⟩
  rw[inj,inj] at h1;exact h1
 have Rw:Rows j:=A2 λl hl=>hF l<|(J l).mp hl;have p:vs.length=j.length:=by rw[I.length,au]
 have Z:vs.length<=18:=by rw[hp.length_eq,au,cu];exact H
 refine cx (by unfold small;calc(aq 569484260810737) p Z) (λh2 s' m=>Gg Rw (by rw[<-p];calc h2) (λb o e=>m b o<|hk b o<|T.fb b o e) I) (λh2 s' m=>JC Rw (by show A.units+1+1+30<dP;calc(ax 0x7342af48b23423f422f51) hu) (λb o e=>m b o<|hk b o<|T.fb b o e) I) λout h' n a0 m hn a1=>?_
 .have L:Sat c B O R s₁:=T.grow hg Y hk;calc ai (aT.perm a0.symm I) λa3 g=>aw g λN r3=>ai (rQ N) λks g=>aw g λP a2=>?_;clear g;clear g N;subst a2;calc ai (L.AH (s':={s₁ with heap:=h'}) rfl rfl m hn a1 r3) λB' g=>aN g λl' S' rr=>⟨B',O,.d<|.lst<|ks.map .tup,l',S',rr,q ks λl=>(P.mem_iff).trans<|J l⟩
theorem UG{s:aA}{ns:List Int}{Q:PV->al->Prop}(r:cP k A)(Sa:Sat c B O R s)(Z:oD c.w s.heap S es)(hG:AS c B ns ns.length es)(q:∀ks:List Int,(∀n,n∈ks↔n∈ns)->ks.length<=ns.length->Q (.d<|.lst<|ks.map .int) O):ao (aO c.prog c.w) A (call (.builtin "sorted") [.ref S]) (gc c Q B R) EF s:=by
 obtain⟨L,hR,a0,hm,hz⟩:=hG;have hm':∀n,n∈L↔n∈ns:=λd=>by rw[hm d,nV (bS _)]
 have C:es.size<=18:=aE Z λ_ _ q=>q.2.Ab;calc Fu (κ:=oneType')<|Jq (r.handled) Z λs₁ vs hg N hk hp=>ai (aT.perm hp.symm hR) λa1 g=>?_;have D:=g.1;have P:=g.2;calc ai (rQ D) λT g=>?_;have U:=g.1;have h:=g.2;clear g;clear D g;subst h;have H:vs.length=es.size:=by rw[hp.length_eq,au,cu]
 have j:vs.length=T.length:=by rw[P.length,au]
 have m:∀v∈vs,∃n t,v= .int n t:=λv hv=>by calc ai (aT.pick P v hv) λd g=>aw g λhd rd=>ai (bb.mp hd) λn g=>aw g λ_ h=>?_;clear g;clear g hd;subst h;obtain⟨t,e⟩:=rd;exact bv n t e
 calc cx (by unfold small;calc(ax 0x205f121ff3631651) C H j) (λh2 s' z=>Ux h2 m) (λh2 s' z=>Zy m) λout h' n X z hn Y=>?_;have I:Sat c B O R s₁:=Sa.grow hg N hk;calc ai (aT.perm X.symm P) λa2 g=>aw g λJ r3=>ai (rQ J) λks g=>aw g λp h=>?_;clear g;clear g J;subst h;calc ai (I.AH (s':={s₁ with heap:=h'}) rfl rfl z hn Y r3) λB' g=>aN g λl' S' rr=>⟨B',O,.d<|.lst<|ks.map .int,l',S',rr,q ks (λl=>(p.mem_iff).trans<|(U.mem_iff).trans<|hm' l) ?_⟩;rw[p.length_eq,<-j,H];calc hz
theorem UY:ElemsOf (zk prog w) (#[]:Array<|Int×Value).toList:=λe he=>by calc cX he
inductive Dg (Q:PV->al->Prop) (ps:List PV) (O:al):Prop
 |rows (rows:List<|List Dt) (e:ps=[.d (.lst<|rows.map .tup)]) (hz:rows.length<=18) (hf:∀l∈rows,Fx l) (q:∀ks:List<|List Dt,(∀l,l∈ks↔l∈rows)->Q (.d<|.lst<|ks.map .tup) O)
 |ints (ns:List Int) (e:ps=[.d (.lst<|ns.map .int)]) (hz:ns.length<=4) (q:∀ks:List Int,(∀n,n∈ks↔n∈ns)->ks.length<=ns.length->Q (.d<|.lst<|ks.map .int) O)
inductive Wh (c:Cx) (k:Nat) (V:Env) (ρ:az) (xargs:List Expr) (Q:PV->al->Prop) (p:PV) (O:al):Prop
 |mk (e:p= .ex (.type "set")) (h:jz c k V ρ xargs O<|Dg Q)
inductive Sk (c:Cx) (k:Nat) (V:Env) (ρ:az) (g:Expr) (xargs:List Expr) (Q:PV->al->Prop) (p:PV) (O:al):Prop
 |mk (e:p= .ex (.builtin "sorted")) (h:WE c k V ρ g O<|Wh c k V ρ xargs Q)
theorem Ls{Q:PV->al->Prop}(he:eval (.Call f [.Call g j [] m] [] a0) V=(eval f V>>=λv=>nv a0 v [] (backTo a0<|starEach [.Call g j [] m] V) []))(hs:starEach [.Call g j [] m] V=[(false,eval (.Call g j [] m) V)])(b7:eval (.Call g j [] m) V=(eval g V>>=λv=>nv m v [] (backTo m<|starEach j V) []))(a5:(starEach j V).all (λx=> !x.1)=true)(h:WE c k V ρ f O<|Sk c k V ρ g j Q):WE c k V ρ (.Call f [.Call g j [] m] [] a0) O Q:= .mk λA B R s r S L=>by
 rw[he];calc af<|aS (h.1 A B R s r S L) (λv s₁ h₁=>?_) λ_ _ x=>x;obtain⟨a6,b8,pf,l₁,a7,a8,rfl,q⟩:=h₁;rw[show v= .builtin "sorted" from a8];calc wQ (plain_any<|by rw[hs];rfl) (λhp X=>(Callee.bi (c:=c)).keeps hp X)<|wm (by rw[hs];rfl) ?_;rw[hs];show ao _ _ (eval (.Call g j [] m) V>>=λv=>pure [v]>>=λhere=>gL here (uB<|backTo a0 [])>>=λrest=>pure<|here++rest) _ _ s₁;rw[b7];calc af<|af<|aS (q.1 A a6 R s₁ r a7<|L.mono l₁) (λzf s₂ a9=>?_) λ_ _ x=>x;obtain⟨b0,b9,pg,l₂,b1,b2,rfl,b3⟩:=a9;rw[show zf= .type "set" from b2];calc wQ (plain_any a5) (λhp X=>(Callee.ty (c:=c)).keeps hp X)<|wm a5<|aS (b3.1 A b0 R s₂ m r b1<|L.mono<|Look.le_trans l₁ l₂) (λc1 c0 b4=>?_) λ_ _ x=>x;obtain⟨I,P,ps,a1,p,J,C⟩:=b4;calc⟨p.gy,?_⟩;have hu:=r.units;rcases C with⟨rows,rfl,a2,hF,C⟩|⟨ns,rfl,h4,C⟩
 .refine ai J.un λv1 l=>?_;have H:=l.1;have T:=l.2;clear l;subst H
  calc aE (be.mT p.up T) λa items l=>aN l λH ht hl=>?_;clear l;clear J T;subst H;have z:items.size=rows.length:=by have:=hl.length;rwa [cu,au] at this
  refine IA (G:=zD c I<|rows.map .tup) (r.handled) ht (by unfold small;calc(aq 569483169052209) a2 z) (λA' b5 i v hv=>?_) ⟨[],⟨rfl,λd hd=>nomatch hd⟩,λd=>by calc uA,bS _⟩ λU es hg a3 hk hS hG=>?_
  .have hi:i<items.size:=(rS.mp hv).1
   have N:i<rows.length:=yb z hi;calc ai (aT.get hl (i:=i) (d:= .tup rows[i])<|by rw[dm,cR N];rfl) λu l=>?_;have Y:=l.1;rw[fj,hv] at Y;cases Y;have hx:(rows.map Dt.tup)[i]? =some (.tup rows[i]):=by rw[dm,cR N];rfl
   exact YS p.up ((aV 0x7340cf123423f422fa5240bf51) hu b5) hx l.2 (hF _<|gJ N)<|(ax 0x71ff121ff3635751) a2 z hi
  .have D:Sat c I P R U:=p.grow hg a3 hk;calc ap ⟨D.gy,?_⟩;rw[z] at hG;exact aS (Sv r D hS hF hG C) (λv b6 Z=>Z.up<|Look.le_trans l₁<|Look.le_trans l₂ a1) λ_ _ x=>x
 .refine ai J.un λv1 l=>?_;have H:=l.1;have T:=l.2;clear l;subst H
  calc aE (be.mT p.up T) λa items l=>aN l λH ht hl=>?_;clear l;clear J T;subst H;have z:items.size=ns.length:=by have:=hl.length;rwa [cu,au] at this
  refine IA (G:=AS c I ns) (r.handled) ht (by unfold small;calc(aq 569483138643505) h4 z) (λA' b5 i v hv=>?_) ⟨[],rfl,UY,λd=>by calc uA,bS _⟩ λU es hg a3 hk hS hG=>?_
  .have hi:i<items.size:=(rS.mp hv).1;have N:i<ns.length:=yb z hi;calc ai (aT.get hl (i:=i) (d:= .int ns[i])<|by rw[dm,cR N];rfl) λu l=>?_;have Y:=l.1;rw[fj,hv] at Y;cases Y;obtain⟨tH,rfl⟩:=l.2;exact Uh (cR N)<|(ax 0x702f1202f3635751) h4 z hi
  .have D:Sat c I P R U:=p.grow hg a3 hk;calc ap ⟨D.gy,?_⟩;rw[z] at hG;calc aS (UG r D hS hG C) (λv b6 Z=>Z.up<|Look.le_trans l₁<|Look.le_trans l₂ a1) λ_ _ x=>x
end
section
noncomputable def Fn(c:Cx)(f:Addr)(st:Stmt):Prop:=HZ c f (lg st) (AE st)<|jy st
variable{c:Cx}{k:Nat}{V:Env}{O:al}{ρ:az}
theorem cY{f:Addr}{st:Stmt}{j:List PV}{Q:PV->al->Prop}(F:Fn c f st)(g:j.length=(lg st).length)(h:∀V:Env,V.scope=jy st->WB c k V (tE ((lg st).zip j) λZ=>none) (AE st) O λfl ah Z=>Q fl.val ah):aW c (k+1) (.ref f) j O Q:=kP.toT<|MM F g h
end
section
noncomputable def Glob(c:Cx)(x:Str)(st:Stmt):Prop:=∃f:Addr,c.mg x=some (.ref f)/\pA c.K (.ref f)=true/\Fn c f st
noncomputable def eO(c:Cx)(x:String):Prop:=c.mg (ak x)=none/\c.mb (ak x)=some (.builtin x)
noncomputable def fJ(c:Cx)(x:String):Prop:=c.mg (ak x)=none/\c.mb (ak x)=some (.type x)
variable{c:Cx}{k:Nat}{V:Env}{O:al}{ρ:az}
theorem rJ(X:eO c x)(hk:V.kindOf (ak x)=some .globalImplicit)(hd:(ak x==("__debug__":Str))=false)(he:eval (.Call (.Name (ak x) p) args [] g) V=(eval (.Name (ak x) p) V>>=λv=>nv g v [] (backTo g<|starEach args V) []))(hs:(starEach args V).all (λx=> !x.1)=true)(h:jz c k V ρ args O λl j=>aW c k (.builtin x) l j Q):WE c k V ρ (.Call (.Name (ak x) p) args [] g) O Q:=AC he hs<|gO hk hd X.1 X.2 ⟨_,rfl,.bi,h⟩
theorem Lf(X:fJ c x)(hk:V.kindOf (ak x)=some .globalImplicit)(hd:(ak x==("__debug__":Str))=false)(he:eval (.Call (.Name (ak x) p) args [] g) V=(eval (.Name (ak x) p) V>>=λv=>nv g v [] (backTo g<|starEach args V) []))(hs:(starEach args V).all (λx=> !x.1)=true)(h:jz c k V ρ args O λl j=>aW c k (.type x) l j Q):WE c k V ρ (.Call (.Name (ak x) p) args [] g) O Q:=AC he hs<|gO hk hd X.1 X.2 ⟨_,rfl,.ty,h⟩
theorem eh{x:Str}{st:Stmt}{args:List Expr}{p g:Pos}{Q:PV->al->Prop}(X:Glob c x st)
  (h:∀f,Fn c f st->jz c k V ρ args O λl j=>aW c k (.ref f) l j Q) (hk:V.kindOf x=some .globalImplicit:=by tm_at"k") (hd:(x==("__debug__":Str))=false:=by decide) (he:eval (.Call (.Name x p) args [] g) V=(eval (.Name x p) V>>=λv=>nv g v [] (backTo g<|starEach args V) []):=by rfl) (hs:(starEach args V).all (λx=> !x.1)=true:=by rfl):WE c k V ρ (.Call (.Name x p) args [] g) O Q:=by
 obtain⟨f,h1,m,q⟩:=X
 calc AC he hs<|zI hk hd h1 ⟨_,rfl,.fn m,h f q⟩
end
theorem V6{V:Env}{st:Stmt}{x:Str}{r:Option jc}(h:V.scope=jy st)(e:(jy st).names.lookup x=r):V.kindOf x=r:=by unfold pj;rw[h];calc e
theorem Y0{cenv V:Env}{scope:eb}{x:Str}{k:jc}(h:cenv.scope=fP scope V)(e:scope.names.lookup x=some k)(hk:(k== .free)=false):cenv.kindOf x=some k:=by unfold pj;rw[h,mv,e,wE,hk];rfl
theorem Y5{cenv V:Env}{scope:eb}{st:Stmt}{x:Str}(h:cenv.scope=fP scope V)(j:V.scope=jy st)(e:scope.names.lookup x=some .free)(g:((jy st).kind== .function&&(jy st).names.lookup x==some .cell)=true):cenv.kindOf x=some .cell:=by rw[<-j] at g;unfold pj;rw[h,mv,e,wE];rw[if_pos];calc g
section
variable{c:Cx}{k:Nat}{V:Env}{O:al}{ρ:az}
theorem et:mU (.int n):=⟨rfl,rfl,cO 40⟩
theorem ie(h:gp x=true):mU (.str x):=⟨h,rfl,cO 40⟩
theorem Dk(h:gp x=true):gp ⟨x.cps.extract 0 1⟩=true:=by unfold gp at h|-;rw[Array.all_eq_true'] at h|-;calc λy hy=>h y ?_;have g:=U7.mp hy;rw[nW,nU] at g;calc U7.mpr<|GH<|Oo g
noncomputable def isVar(s:Str)(l:List Dt):Bool:=decide (l.length=0)&&decide ((⟨s.cps.extract 0 1⟩:Str)=ak "?")
theorem VF(h:eO c "len"){f:Addr}(F:Fn c f<|aK 7){s:Str}{l:List Dt}{Q:PV->al->Prop}(hs:s.cps.size<=1000)(g:gp s=true)(j:l.length<=1000)(q:Q (.d<|.bool<|isVar s l) O):aW c (k+1) (.ref f) [.d (.tup (.str s::l))] O Q:=by
 refine cY F rfl λV m=>?_
 iterate 8 tm_at"s"
 calc kZ (by unfold small;rw[bP];calc(aB 139044456177) j) ?_;tm_at"s";calc fe et et<|⟨_,rfl,?_⟩;rw[show decide (Dt.int ((Dt.str s::l).length:Int)=Dt.int 1)=decide (l.length=0) from decide_eq_decide.mpr (by rw[Dt.int.injEq];calc Pn.trans Nat.succ_inj)];unfold isVar at q;by_cases h0:l.length=0
 .rw[decide_eq_true h0] at q|-;refine cB rfl ?_
  iterate 5 tm_at"s"
  calc eY (eT) (eV) rfl<|Lx hs ?_;tm_at"s";calc fe (ie<|Dk g) (ie<|by decide+kernel) ?_;rw[show decide (Dt.str ⟨s.cps.extract 0 1⟩=Dt.str (ak "?"))=decide ((⟨s.cps.extract 0 1⟩:Str)=ak "?") from decide_eq_decide.mpr (by rw[Dt.str.injEq])];exact q
 .rw[decide_eq_false h0] at q|-;calc q
noncomputable def sK:Dt:= .str<|ak "cells"
noncomputable def qN:Dt:= .str<|ak "at"
theorem k_ne:sK≠qN:=by intro h;calc absurd (Dt.str.inj h)<|by decide+kernel
noncomputable def gg(cells:List Int)(n:Int):List (Dt×PV):=[(sK,.d<|.lst<|cells.map .int),(qN,.d<|.int n)]
theorem Lh:dH (gg cells n) sK=some (.d<|.lst<|cells.map .int):=by unfold dH gg;simp
theorem Yd:dH (gg cells n) qN=some (.d<|.int n):=by unfold dH gg;rw[Cf,decide_eq_false k_ne];simp
theorem Zn:dput (gg cells n) qN (.d<|.int m)=gg cells m:=by unfold dput gg;simp[k_ne]
theorem El:sK.key=true:=by unfold sK;decide+kernel
theorem Dx:qN.key=true:=by unfold qN;decide+kernel
theorem qe:(Dt.str x).depth<=6:=cO 6
noncomputable def vn(cells:List Int)(n:Nat)(m:Int):Int:=match cells[n]? with
 |some x=>x.fmod m
 |none=>((2*n+(n:Int).fdiv 3):Int).fmod m
theorem C0(j:eO c "len")(F:Fn c f<|aK 22){t:Addr}{cells:List Int}{n:Nat}{Q:PV->al->Prop}(l:O t=some (.aM<|gg cells n))(hc:cells.length<=1000)(p:n<=1000)(hm:m≠0)(q:Q (.d<|.int<|vn cells n m)<|upd O t<|.aM<|gg cells ((n+1:Nat):Int)):aW c (k+1) (.ref f) [.ref t,.d (.int m)] O Q:=by
 calc cY F rfl λV r=>?_;lk;calc pL l Dx qe Yd ?_;lk;calc pN l ⟨Dx,qe⟩ (by unfold small gg;simp) ?_;rw[Zn];have h:(upd O t<|.aM<|gg cells<|(n:Int)+1) t=some (.aM<|gg cells<|(n:Int)+1):=by unfold upd;rw[if_pos rfl]
 rw[show(((n+1:Nat):Int))=(n:Int)+1 from(aB 0x16f1ef11f01f101fb)] at q;lk;calc pL h El qe Lh ?_;lk;calc DF (by unfold small;rw[au];calc iN hc) ?_;lk;calc⟨_,rfl,?_⟩;by_cases g:n<cells.length
 .refine cB (decide_eq_true<|by rw[au];calc(aq 0x8f01f301f1731) g) ?_;unfold vn at q;rw[cR g] at q;lk;calc pL h El qe Lh ?_;lk;calc YM ((aB 0xef01f112f206f1) p) ((aB 0x8f20f01f1206f1) p) (x:= .int cells[n]) (by rw[hH,dm,cR g];rfl) ?_;lk;exact IL hm q
 .refine cy (decide_eq_false<|by rw[au];calc(aq 0xd08f01f301f1d731) g) ?_;unfold vn at q;rw[qp (by calc(aq 36820755) g)] at q;lk;calc TK (.of_left<|by decide) ?_;lk;calc Xh (by decide) (by unfold E8;rfl) ?_;lk;calc IL hm q
end
section
set_option genInjectivity true in
inductive Tm where
 |nd (s:Str) (l:List Tm)
theorem Tm.ind{P:Tm->Prop}{Q:List Tm->Prop}(h:∀x l,Q l->P (.nd x l))(n:Q [])(c:∀t g,P t->Q g->Q (t::g)):(∀t,P t)/\∀l,Q l:=⟨λt=>Tm.rec (motive_1:=P) (motive_2:=Q) h n c t,λl=>Tm.rec_1 (motive_1:=P) (motive_2:=Q) h n c l⟩
noncomputable def Tm.dt:Tm->Dt:=Tm.rec (motive_1:=λZ=>Dt) (motive_2:=λZ=>List Dt) (λs Z l=> .tup (.str s::l)) [] λZ Z a l=>a::l
noncomputable def Tm.kM:List Tm->List Dt:=Tm.rec_1 (motive_1:=λZ=>Dt) (motive_2:=λZ=>List Dt) (λs Z l=> .tup (.str s::l)) [] λZ Z a l=>a::l
noncomputable def Tm.rows:Tm->List Tm:=Tm.rec (motive_1:=λZ=>List Tm) (motive_2:=λZ=>List Tm) (λs l r=> .nd s l::r) [] λZ Z a l=>a++l
noncomputable def Tm.bx:List Tm->List Tm:=Tm.rec_1 (motive_1:=λZ=>List Tm) (motive_2:=λZ=>List Tm) (λs l r=> .nd s l::r) [] λZ Z a l=>a++l
noncomputable def Tm.dZ:Tm->Nat:=Tm.rec (motive_1:=λZ=>Nat) (motive_2:=λZ=>Nat) (λZ Z n=>n+1) 0 λZ Z a n=>max a n
noncomputable def Tm.tD:List Tm->Nat:=Tm.rec_1 (motive_1:=λZ=>Nat) (motive_2:=λZ=>Nat) (λZ Z n=>n+1) 0 λZ Z a n=>max a n
theorem Tm.nR{s:Str}{l:List Tm}:(Tm.nd s l).dt= .tup (.str s::Tm.kM l):=rfl
theorem Tm.uH:Tm.kM []=[]:=rfl
theorem Tm.AW{t:Tm}{l:List Tm}:Tm.kM (t::l)=t.dt::Tm.kM l:=rfl
theorem Tm.jJ{s:Str}{l:List Tm}:(Tm.nd s l).rows= .nd s l::Tm.bx l:=rfl
theorem Tm.pV:Tm.bx []=[]:=rfl
theorem Tm.iP{t:Tm}{l:List Tm}:Tm.bx (t::l)=t.rows++Tm.bx l:=rfl
theorem Tm.vQ{s:Str}{l:List Tm}:(Tm.nd s l).dZ=Tm.tD l+1:=rfl
theorem Tm.vV:∀(l:List Tm),Tm.kM l=l.map Tm.dt:=by
 intro g;induction g with
 |nil=>
  rfl
 |cons t j h=>
  rw[Tm.AW,h];rfl
theorem Tm.oN:∀(a b:List Tm),Tm.bx (a++b)=Tm.bx a++Tm.bx b:=by
 intro g;induction g with
 |nil=>
  intro b;rfl
 |cons t a h=>
  intro b;rw[R5,Tm.iP,Tm.iP,h b,eK]
theorem Tm.qX:∀{l:List Tm} {t:Tm},t∈l->t.dZ<=Tm.tD l
 |a::l,t,h=>by
  show _<=max a.dZ (Tm.tD l);rcases dD.mp h with rfl|h
  .exact Hn ..
  .exact aL (Tm.qX h)<|Hb ..
theorem Tm.sZ:∀(l:List Tm),l.length<=(Tm.bx l).length
 |[]=>cO _
 | .nd s g::l=>by rw[Tm.iP,Tm.jJ,bA,bP,bP];calc(ax 610054737)<|Tm.sZ l
variable{c:Cx}{k:Nat}{V:Env}{O:al}{ρ:az}
theorem Sf(G:Glob c (ak "_law_rows")<|aK 28):∀(n:Nat) (t:Tm) {k:Nat} {f:Addr} {O:al} {Q:PV->al->Prop},Fn c f (aK 28)->t.dZ<=n->t.rows.length<=1000->Q (.d<|.lst<|t.rows.map Tm.dt) O->aW c (k+n+1) (.ref f) [.d t.dt] O Q:=by
 intro z;induction z with
 |zero=>
  intro C;cases C with
  |nd s l=>
   intro k f O Q F r m q;calc absurd r<|gm _
 |succ n L=>
  intro D;cases D with
  |nd s l=>
   intro k f O Q F r m q;rw[Tm.vQ] at r;rw[Tm.jJ,bP] at m;rw[Tm.nR];calc cY F rfl λV N=>?_;lk;calc iG ?_;lk;calc⟨lb rfl,[_],rfl,?_⟩;lk;calc gD (λZ=>rfl)<|oq ?_;lk;refine il (lb rfl) (by unfold small;rw[bP,Tm.vV,au];have:=Tm.sZ l;calc(aq 569526092546609) m this)<|⟨_,rfl,xq (g:=λt=> .d t.dt) (l:=l) [ak "kid",ak "found"] (λdone j=>j (ak "found")=some (.d<|.lst<|(Tm.nd s l::Tm.bx done).map Tm.dt)) (by rw[uf,uc,Tm.vV,bg];rfl) ?_ ?_ ?_⟩
   .show some _=some _;rw[Tm.pV,dK,Tm.nR];rfl
   .intro done t p j P I hf J H
    ·
     have h:(Tm.bx l).length=(Tm.bx done).length+(t.rows.length+(Tm.bx p).length):=by rw[I,Tm.oN,bA,Tm.iP,bA]
     lk;tm_at"A";calc eh G λZ Z=>?_;lk;calc L t ‹_› (by have:=Tm.qX<|mid I;calc sy r this) ((aV 0x206f1206fc644a153) m h)<|Ay (by unfold small;simp only[au,bP];calc(aV 0x205f43b206f03f644a315) m h) ?_;lk;calc H _ ?_<|(J.set rfl).set rfl;show some _=some _;rw[<-cb,Tm.oN,Tm.iP,Tm.pV,ea];rfl
   .intro j hf J;lk;tm_at"A";rw[Tm.jJ] at q;calc q
end
section
variable{c:Cx}{k:Nat}{V:Env}{O:al}{ρ:az}
theorem mP(l:List Dt)(f:Dt->Dt)(I:scope.names.lookup x=some .local)(J:small l.length)(hk:∀cenv:Env,cenv.scope=fP scope V->cenv.kindOf x=some .local)(h:∀cenv j d,cenv.scope=fP scope V->fS scope ρ j->j x=some (.d d)->d∈l->WE c k cenv j r O λp ah=>p= .d (f d)/\ah=O)(q:P (l.map f) O):kG c k V ρ scope (.ListComp r [⟨.Name x p,C,[],0⟩] scope L) (.Name x p) (l.map .d) O P:=by
 have m:(scope.names.lookup x !=some .free)=true:=by rw[I];rfl
 calc xi (g:= .d) (l:=l) (by show([x].all _)=true;simp[m]) (λd=>d.map f) (λZ ah=>ah=O) rfl rfl rfl (λcenv j done d D ah hc T hd z=>⟨by rw[au];calc aL (ja<|nS hd) J,by rw[z];calc jL (hk:=hk cenv hc) ⟨T.aZ m _,vR<|cB rfl<|(h cenv _ d hc (T.aZ m _) (by unfold aZ;rw[if_pos rfl])<|mid hd).mono λp H h=>⟨f d,h.1,by rw[cb];rfl,h.2⟩⟩⟩) λah z=>z▸q
noncomputable def Tm.str:Tm->Str
 | .nd s _=>s
noncomputable def Tm.kids:Tm->List Tm
 | .nd _ l=>l
theorem Tm.jv(t:Tm):t.dt= .tup (.str t.str::t.kids.map Tm.dt):=by
 cases t with
 |nd s l=>rw[Tm.nR,Tm.vV];rfl
noncomputable def Gb(t:Tm):Dt:= .tup [.int t.rows.length,.tup<|t.rows.map λr=> .str r.str,.tup (t.rows.map λr=> .int (r.kids.length+1:Nat))]
theorem Ba{l:List Tm}{d:Dt}(h:d∈l.map Tm.dt):∃t∈l,d= .tup (.str t.str::t.kids.map Tm.dt):=by calc ai (bb.mp h) λt g=>?_;have m:=g.1;have j:=g.2;clear g;clear h;subst j;calc⟨t,m,t.jv⟩
noncomputable def headD:Dt->Dt
 | .tup (d::_)=>d
 |_=> .none
noncomputable def Ev:Dt->Dt
 | .tup l=> .int l.length
 |_=> .none
theorem UB(G:Glob c (ak "_law_rows")<|aK 28)(z:eO c "len")(C:fJ c "tuple")(F:Fn c f<|aK 29){t:Tm}{n:Nat}{Q:PV->al->Prop}(D:t.dZ<=n)(j:t.rows.length<=1000)(hk:∀r∈t.rows,r.kids.length<=1000)(q:Q (.d<|Gb t) O):aW c (k+n+1+1) (.ref f) [.d t.dt] O Q:=by
 calc cY F rfl λV l=>?_;lk;calc eh G λZ Z=>?_;lk;calc Sf G n t ‹_› D j ?_;lk;calc cT ?_;lk;calc DF (by unfold small;rw[au];calc iN j) ?_;lk;calc gN (by rw[l];rfl) (λZ=>rfl)<|eJ ?_;lk;refine⟨_,rfl,mP _ headD (by rfl) (by unfold small;rw[au];calc iN j) (λcenv hc=>by tm_at"k") ?_ ?_⟩
 .refine λcenv p d hc T hd hm=>ai (Ba hm) λr g=>?_;have m:=g.1;have h:=g.2;clear g;clear hm;subst h;lk;tm_at"A";lk;refine eY (eT) (eV) rfl ⟨rfl,rfl⟩
 lk;calc pX (by unfold small;rw[au,au];calc iN j) ?_;lk;calc gN (by rw[l];rfl) (λZ=>rfl)<|eJ ?_;lk;refine⟨_,rfl,mP _ Ev (by rfl) (by unfold small;rw[au];calc iN j) (λcenv hc=>by tm_at"k") ?_ ?_⟩
 .refine λcenv p d hc T hd hm=>ai (Ba hm) λr g=>?_;have m:=g.1;have h:=g.2;clear g;clear hm;subst h;lk;tm_at"A";lk;refine kZ (by unfold small;rw[bP,au];have:=hk r m;calc(aB 139044456177) this) ⟨rfl,rfl⟩
 lk;calc pX (by unfold small;rw[au,au];calc iN j) ?_;lk;refine⟨lb rfl,.inl ⟨[_,_,_],rfl,?_⟩⟩
 have e:(Dt.tup [Dt.int ((t.rows.map Tm.dt).length:Int),Dt.tup<|(t.rows.map Tm.dt).map headD,Dt.tup ((t.rows.map Tm.dt).map Ev)])=Gb t:=by
  unfold Gb;rw[au,bg,bg];congr 2;congr 1
  .congr 1;apply gZ;intro r _;show headD r.dt=_;rw[r.jv];rfl
  .congr 1;congr 1;apply gZ;intro r _;show Ev r.dt=_;rw[r.jv];show Dt.int ((Dt.str r.str::qB Tm.dt r.kids).length:Nat)=_;rw[bP,au]
 rw[<-e] at q;calc q
structure UC(c:Cx)(C:Addr):Prop where
 cls:jp c C
 above:ic c C<|ak "above"
 bh:ic c C<|ak "lots"
 merged:ic c C<|ak "merged"
noncomputable def aY(n:Nat):PV:= .d<|.int n
structure kO where
 u:Addr
 dx:Addr
 la:Addr
 ll:Addr
 lm:Addr
structure vH(C:Addr)(a:kO)(O:al)(par:List Nat)(bh:List Addr)(merged:List PV):Prop where
 ob:O a.u=some (.inst C a.dx)
 ns:∃n σ,O a.dx=some (.ns n σ)/\σ (ak "above")=some (.ref a.la)/\σ (ak "lots")=some (.ref a.ll)/\σ (ak "merged")=some (.ref a.lm)/\∀x,x≠ak "above"->x≠ak "lots"->x≠ak "merged"->σ x=none
 la:O a.la=some (.lst<|par.map aY)
 ll:O a.ll=some (.lst<|bh.map .ref)
 lm:O a.lm=some (.lst merged)
noncomputable def iL(par:List Nat):Prop:=∀i,i<par.length->par.getD i 0<=i
noncomputable def xL(par:List Nat):Nat->Nat->Nat
 |0,a=>a
 |n+1,a=>if par.getD a 0=a then a else xL par n<|par.getD a 0
noncomputable def root(par:List Nat)(a:Nat):Nat:=xL par (a+1) a
theorem Sj(h:iL par):∀(n m a:Nat),a<par.length->a<n->a<m->xL par n a=xL par m a:=by
 intro j;induction j with
 |zero=>
  calc λm a Z h1 Z=>(ax 6494181) h1
 |succ n r=>
  intro l;cases l with
  |zero=>
   calc λa Z Z p=>(ax 6494181) p
  |succ m=>
   intro a q h1 p;calc Ma (λZ=>rfl) λg=>?_;have:=h a q;calc r m _ (tf q this) ((ax 0x7317c5d651251) h1 g this)<|(ax 0x7317c5d651251) p g this
theorem nN(h:iL par)(j:a<par.length):root par a=if par.getD a 0=a then a else root par (par.getD a 0):=by calc Ma (λZ=>rfl) λg=>?_;have:=h a j;calc Sj h _ _ _ (tf j this) ((aq 494414271025) g this)<|sO
theorem RT{par:List Nat}{a:Nat}(h:a<par.length):(par.map aY)[((a:Int)).toNat]? =some (aY<|par.getD a 0):=by rw[hH,dm,cR h];simp[h]
theorem Av{C f:Addr}(U:UC c C)(F:Fn c f<|bj (aK 18) 3){a:kO}{par:List Nat}{bh:List Addr}{merged:List PV}{i:Nat}{Q:PV->al->Prop}(X:vH C a O par bh merged)(hp:iL par)(hi:i<par.length)(hz:par.length<=1000)(q:Q (aY<|root par i) O):aW c (k+1) (.ref f) [.ref a.u,aY i] O Q:=by
 calc aE X.ns λn σ g=>bV g λL N _ _=>cY F rfl λV a0=>?_;lk;calc Eg (λm ah p=>ah=O/\p (ak "self")=some (.ref a.u)/\∃j:Nat,p (ak "a")=some (aY j)/\j<par.length/\root par j=root par i/\j<=m) i (aR rfl rfl ⟨i,cx rfl hi rfl<|bS _⟩) λm ah p g=>?_;calc aN g λP z D=>ai D λj H=>bV H λhj h I S=>?_;clear D H g;clear g;subst P;have r:∀{T:PV->al->Prop} {Y Z p3 p4:Pos},T (aY<|par.getD j 0) ah->WE c k V p (.Subscript (.Attribute (.Name (ak "self") Y) (ak "above") Z) (.Name (ak "a") p3) p4) ah T:=by intro T Y Z p3 p4 q';calc jA (λ_ _=>rfl)<|tm (by rfl) ?_;tm_at"A";calc⟨a.u,C,a.dx,n,σ,_,rfl,X.ob,L,N,rfl,U.cls,U.above,?_⟩;tm_at"A";exact li X.la (mf) ((aq 0x8f20f01f1206f3731) hz h) (RT h) q'
 calc lP (by rfl)<|r ?_;tm_at"A";calc kU et et<|⟨_,rfl,?_⟩;have l:=nN hp h;by_cases he:par.getD j 0=j
 .rw[show decide (Dt.int ((par.getD j 0:Nat):Int)=Dt.int (j:Int))=true from decide_eq_true (by rw[he])];calc cy rfl ?_;rw[if_pos he] at l;lk;tm_at"A";rw[I] at l;rw[l] at q;exact q
 .rw[show decide (Dt.int ((par.getD j 0:Nat):Int)=Dt.int (j:Int))=false from decide_eq_false (by rw[Dt.int.injEq];calc(aq 0xd16f01f301f1d631) he)];calc cB rfl ?_;rw[if_neg he] at l;have J:=hp j h;calc aU<|cz<|r ?_;lk;calc⟨par.getD j 0,(ax 0x731235d651251) S he J,rfl,z,par.getD j 0,rfl,tf h J,by rw[<-l];calc I,bS _⟩
noncomputable def kO.own(a:kO)(bh:List Addr):List Addr:=a.u::a.dx::a.la::a.ll::a.lm::bh
structure gw(C:Addr)(a:kO)(O:al)(par:List Nat)(bh:List Addr)(mem:List<|List Nat)(mg:List PV):Prop where
 at_:vH C a O par bh mg
 len:bh.length=par.length
 ml:mem.length=par.length
 has:∀(i:Nat) l ms,bh[i]? =some l->mem[i]? =some ms->O l=some (.lst<|ms.map aY)
 nd:(a.own bh).Nodup
theorem bo:upd O a m a=some m:=by unfold upd;rw[if_pos rfl]
theorem aC(h:b≠a):upd O a m b=O b:=by unfold upd;rw[if_neg h]
theorem uo(h:b≠a)(e:O b=r):upd O a m b=r:=(aC h).trans e
theorem gw.some(X:gw C a O par bh mem mg)(h:b∈a.own bh):∃m,O b=some m:=by
 refine aE X.at_.ns λZ Z q=>(show∀b∈a.own bh,∃m,O b= .some m from fa ⟨_,X.at_.ob⟩<|fa ⟨_,q.1⟩<|fa ⟨_,X.at_.la⟩<|fa ⟨_,X.at_.ll⟩<|fa ⟨_,X.at_.lm⟩ λb h=>?_) b h
 .refine ai (gk.mp h) λi hi=>?_
  have g:i<bh.length:=(dJ.mp hi).1;have:i<mem.length:=by rw[X.ml,<-X.len];exact g
  calc⟨_,X.has i b _ hi<|cR this⟩
theorem gw.fresh(X:gw C a O par bh mem mg)(h:O b=none):b∉a.own bh:=λhm=>by calc ai (X.some hm) λm e=>?_;rw[h] at e;calc bp e
theorem gw.same(X:gw C a O par bh mem mg)(h:∀b∈a.own bh,ah b=O b):gw C a ah par bh mem mg:=by calc aE X.at_.ns λn σ g=>aw g λj p=>?_;have m:∀b,b∈a.own bh->ah b=O b:=h;unfold kO.own at m;calc{at_:={ob:=(m _<|.head _).trans X.at_.ob,ns:=bv n σ ⟨(m _<|.tail _<|.head _).trans j,p⟩,la:=(m _<|.tail _<|.tail _<|.head _).trans X.at_.la,ll:=(m _<|.tail _<|.tail _<|.tail _<|.head _).trans X.at_.ll,lm:=(m _<|.tail _<|.tail _<|.tail _<|.tail _<|.head _).trans X.at_.lm},len:=X.len,ml:=X.ml,has:=λi l ms h1 q=>(m l<|by simp[fZ h1]).trans<|X.has i l ms h1 q,nd:=X.nd}
theorem gw.more(X:gw C a O par bh mem mg)(q:O l=none):gw C a (upd (upd (upd O a.la<|.lst<|(par++[p]).map aY) l<|.lst [aY p]) a.ll<|.lst<|(bh++[l]).map .ref) (par++[p]) (bh++[l]) (mem++[[p]]) mg:=by
 have hf:=X.fresh q;have nd:=X.nd;calc aE X.at_.ns λn σ j=>?_;refine{at_:={ob:= ?_,ns:=bv n σ ⟨?_,j.2⟩,la:= ?_,ll:=bo,lm:= ?_},len:=by simp[X.len],ml:=by simp[X.ml],has:=λi m ms h1 h=>?_,nd:= ?_}
 .exact uo (nq nd 0 3)<|uo (nm hf 0).symm<|uo (nq nd 0 2) X.at_.ob
 .exact uo (nq nd 1 3)<|uo (nm hf 1).symm<|uo (nq nd 1 2) j.1
 .exact uo (nq nd 2 3)<|uo (nm hf 2).symm bo
 .exact uo (nq nd 4 3)<|uo (nm hf 4).symm<|uo (nq nd 4 2) X.at_.lm
 .have g:mem.length=bh.length:=by rw[X.ml,X.len]
  rw[GI] at h1 h;by_cases hi:i<bh.length
  .rw[if_pos hi] at h1;rw[if_pos (Q6 g hi)] at h;have hm:=fZ h1;exact uo (oK nd 3 5 hm)<|uo (λe=>Ip hf 5<|e▸hm)<|uo (oK nd 2 5 hm)<|X.has i m ms h1 h
  .rw[if_neg hi] at h1
   rw[if_neg (by calc(ax 0xd731653d751) g hi)] at h;have h0:i -bh.length=0:=by have:=(dJ.mp h1).1;simpa using this
   rw[h0] at h1;rw[show i -mem.length=0 from(ax 0x6e931653d7516e951) g hi h0] at h;obtain rfl:l=m:=by simpa using h1
   obtain rfl:[p]=ms:=by simpa using h
   exact uo (nm hf 3) bo
 .exact kg nd hf
theorem MB{a:kO}{x:Str}{Q:PV->al->Prop}(hc:jp c C)(h:ic c C x)(hk:V.kindOf (ak "self")= .some .local)(g:ρ (ak "self")= .some (.ref a.u))(j:O a.u= .some (.inst C a.dx))(hs:O a.dx= .some (.ns n σ))(l:σ x= .some (.ref r))(q:Q (.ref r) O):WE c k V ρ (.Attribute (.Name (ak "self") m) x p) O Q:=tm (by rfl)<|bJ (hk:=hk) g ⟨a.u,C,a.dx,n,σ,_,rfl,j,hs,l,rfl,hc,h,q⟩
theorem Qh(U:UC c C)(T:eO c "len")(F:Fn c f<|bj (aK 18) 1){a:kO}{par:List Nat}{bh:List Addr}{mem:List<|List Nat}{Q:PV->al->Prop}(X:gw C a O par bh mem mg)(hz:par.length<=1000)(q:∀ah l,O l=none->gw C a ah (par++[par.length]) (bh++[l]) (mem++[[par.length]]) mg->(∀b,b∉a.own bh->b≠l->ah b=O b)->Q (aY par.length) ah):aW c (k+1) (.ref f) [.ref a.u] O Q:=by
 calc aE X.at_.ns λn σ g=>bV g λh z D _=>cY F rfl λV a0=>aU<|eG ?_;tm_at"m"
 (calc MB (a:=a) (r:=a.la) U.cls U.above ?Rd ?QR X.at_.ob h z ?Y9;(case Rd=>tm_at"k");(case QR=>rfl))
 calc ij X.at_.la lR mY ?_;lk;calc⟨_,_,_,_,_,_,rfl,X.at_.ob,h,z,rfl,U.cls,U.above,?_⟩;lk;calc jm X.at_.la (by unfold small;rw[au];calc iN hz) ?_;lk;calc lF X.at_.la (by unfold small;rw[au];calc iN hz) ?_;have e1:(par.map aY++[PV.d (Dt.int ((par.map aY).length:Nat))])=(par++[par.length]).map aY:=by rw[cb,au];rfl
 rw[e1];have Y:=(aC (O:=O) (m:= .lst<|(par++[par.length]).map aY)<|nq X.nd 0 2).trans X.at_.ob;have Z:=(aC (O:=O) (m:= .lst<|(par++[par.length]).map aY)<|nq X.nd 1 2).trans h;have P:=(aC (O:=O) (m:= .lst<|(par++[par.length]).map aY)<|nq X.nd 3 2).trans X.at_.ll;calc aU<|eG ?_;tm_at"m"
 (calc MB (a:=a) (r:=a.ll) U.cls U.bh ?ZW ?Wm Y Z D ?W9;(case ZW=>tm_at"k");(case Wm=>rfl))
 calc ij P lR mY<|ba<|iV ?_;lk;calc⟨_,_,_,_,_,_,rfl,Y,Z,D,rfl,U.cls,U.bh,?_⟩;lk;calc jm P (by unfold small;rw[au,X.len];calc iN hz) ?_;lk;calc⟨lb rfl,λl N=>?_⟩;lk
 have j:O l=none:=by
  unfold upd at N;split at N
  .exact cU N
  .exact N
 have H:=X.more (p:=par.length) j;rw[show(PV.d<|Dt.int ((bh.map PV.ref).length:Nat))=aY par.length by rw[au,X.len];rfl];calc lF (uo (nm (X.fresh j) 3).symm P) (by unfold small;rw[au,X.len];calc iN hz) ?_;have e2:bh.map PV.ref++[PV.ref l]=(bh++[l]).map PV.ref:=by rw[cb];rfl
 rw[e2];generalize I:upd (upd (upd O a.la<|.lst<|(par++[par.length]).map aY) l<|.lst [aY par.length]) a.ll (.lst<|(bh++[l]).map .ref)=ah at H|-;calc aE H.at_.ns λn' a1 g=>bV g λJ L _ _=>?_;lk;calc⟨_,_,_,_,_,_,rfl,H.at_.ob,J,L,rfl,U.cls,U.above,?_⟩;lk;calc jm H.at_.la (by unfold small;rw[au,bA];simp;calc(aB 148429211377) hz) ?_;lk;have hq:=q ah l j H (λb hb S=>by calc I▸uo (nm hb 3) (uo S<|aC<|nm hb 2));rw[show(PV.d<|Dt.int<|(((par++[par.length]).map aY).length:Nat) -1)=aY par.length by rw[au,bA];show PV.d (Dt.int _)=PV.d (Dt.int _);congr 2;simp];calc hq
noncomputable def df(c:Cx)(C:Addr)(x:Str)(st:Stmt):Prop:=∃f,iY c C x f/\pA c.K (.ref f)=true/\Fn c f st
theorem pP{C:Addr}{a:kO}{par:List Nat}{bh:List Addr}{mg:List PV}(X:vH C a O par bh mg)(l:jp c C){x:Str}{st:Stmt}(M:df c C x st)(h1:x≠ak "above")(m:x≠ak "lots")(q:x≠ak "merged"){P:Value->List PV->Prop}(p:∀f,Fn c f st->P (.ref f) [.ref a.u]):nL c (.ref a.u) x O P:=by calc aE X.ns λn σ g=>fi g λh Z Z Z j=>?_;obtain⟨f,hm,hk,r⟩:=M;calc yp X.ob h (j x h1 m q) l hm<|p f r
theorem MI(U:UC c C)(l:eO c "len")(F:Fn c f<|bj (aK 18) 2)(X:vH C a O par bh mg)(hz:par.length<=1000)(q:Q (aY par.length) O):aW c (k+1) (.ref f) [.ref a.u] O Q:=by calc aE X.ns λn σ g=>aN g λh j Z=>cY F rfl λV m=>?_;lk;calc⟨_,_,_,_,_,_,rfl,X.ob,h,j,rfl,U.cls,U.above,?_⟩;lk;calc jm X.la (by unfold small;rw[au];calc iN hz) ?_;rw[show(PV.d<|Dt.int ((par.map aY).length:Nat))=aY par.length by rw[au];rfl];calc q
theorem RF(U:UC c C)(D:eO c "sorted")(H:df c C (ak "find")<|bj (aK 18) 3)(F:Fn c f<|bj (aK 18) 5)(X:gw C a O par bh mem mg)(hp:iL par)(hi:i<par.length)(r:root par i<par.length)(hz:par.length<=1000)(hm:mem[root par i]? =some ms)(j:ms.length<64)(q:∀h:List Int,h.Perm (ms.map uq)->Q (.d<|.lst<|h.map .int) O):aW c (k+1+1) (.ref f) [.ref a.u,aY i] O Q:=by
 calc aE X.at_.ns λn σ l=>bV l λm I p Z=>cY F rfl λV J=>?_;lk;calc⟨_,_,_,_,_,_,rfl,X.at_.ob,m,p,rfl,U.cls,U.bh,?_⟩;tm_at"m";lk;calc pP X.at_ U.cls H (by decide+kernel) (by decide+kernel) (by decide+kernel) λg G=>?_;lk;calc Av U G X.at_ hp hi hz ?_;have z:root par i<bh.length:=by rw[X.len];exact r
 calc li X.at_.ll (x:= .ref bh[root par i]) (mf) ((aq 0x8f20f01f1731206f3) r hz) (by rw[hH,dm,cR z];rfl) ?_;lk;have hh:=X.has _ _ _ (cR z) hm;calc RX (is:=ms.map uq) (by rw[hh,bg];rfl) (by rw[au];calc j) λh hj Z=>q h hj
theorem gw.join{a:kO}{par:List Nat}{mem:List<|List Nat}{mg:List PV}(X:gw C a O par bh mem mg){p g:Nat}{mk mo:List Nat}{v:PV}(hp:p<par.length)(hk:mem[p]? = .some mk):gw C a (upd (upd (upd O a.la<|.lst<|(par.set g p).map aY) (bh[p]'(by rw[X.len];calc hp))<|.lst<|(mk++mo).map aY) a.lm<|.lst<|mg++[v]) (par.set g p) bh (mem.set p<|mk++mo) (mg++[v]):=by
 have D:p<bh.length:=by rw[X.len];exact hp
 have kN:bh[p]∈bh:=gJ D;have nd:=X.nd;have l:∀(i:Nat) {b:Addr},(a.own bh)[i]? = .some b->HU (i+1) 5=true->b≠bh[p]:=λi Z h H=>(oK nd i 5 kN h H).symm;calc aE X.at_.ns λn σ m=>?_;refine{at_:={ob:= ?_,ns:=bv n σ ⟨?_,m.2⟩,la:= ?_,ll:= ?_,lm:=bo},len:=by simp[X.len],ml:=by simp[X.ml],has:=λi z ms h1 q=>?_,nd:=X.nd}
 .exact uo (nq nd 0 4)<|uo (l 0 rfl rfl)<|uo (nq nd 0 2) X.at_.ob
 .exact uo (nq nd 1 4)<|uo (l 1 rfl rfl)<|uo (nq nd 1 2) m.1
 .exact uo (nq nd 2 4)<|uo (l 2 rfl rfl) bo
 .exact uo (nq nd 3 4)<|uo (l 3 rfl rfl)<|uo (nq nd 3 2) X.at_.ll
 .have hm:=fZ h1;have hi:i<bh.length:=(dJ.mp h1).1;have he:bh[i]=z:=(dJ.mp h1).2;calc uo (oK nd 4 5 hm) ?_;by_cases j:i=p
  .clear hk kN l;subst j
   rw[<-he,bo];have r:i<mem.length:=by rw[X.ml];exact hp
   rw[List.getElem?_set_self r] at q;cases q;rfl
  .rw[List.getElem?_set_ne (λe=>j e.symm)] at q;calc uo (λe=>j<|(tW<|nd.sublist<|O3 5 _).mp<|he.trans e)<|uo (oK nd 2 5 hm)<|X.has i z ms h1 q
theorem AK(h:l.length=2):∃a b,l=[a,b]:=by
 cases l with
 |nil=>calc nomatch h
 |cons a l=>calc ai (GC.mp<|qy h) λb e=>bv a b<|e▸rfl
theorem ZT(h:m.Perm [(x:Int),(y:Int)])(hs:m.Pairwise (·<=·)):∃p g:Nat,m=[(p:Int),(g:Int)]/\(p=x/\g=y\/p=y/\g=x)/\p<=g:=by
 calc aE (AK h.length_eq) λu v e=>?_;subst e;have j:u<=v:=List.rel_of_pairwise_cons hs<|.head _;rcases dD.mp (h.mem_iff.mp<|.head _) with l|l
 .rw[l] at h j|-;rw[(ci.mp<|((U3 _).mp h).mem_iff.mp<|.head _)] at j|-;exact bv x y<|aR rfl (.inl ⟨rfl,rfl⟩)<|wO.mp j
 .rw[(ci.mp l)] at h j|-;rw[(ci.mp<|((U3 _).mp<|h.trans<|.swap ..).mem_iff.mp<|.head _)] at j|-;calc bv y x<|aR rfl (.inr ⟨rfl,rfl⟩)<|wO.mp j
theorem YY(U:UC c C)(a7:eO c "sorted")(MF:df c C (ak "find")<|bj (aK 18) 3)(F:Fn c f<|bj (aK 18) 4){a:kO}{par:List Nat}{mem:List<|List Nat}{mg:List PV}{i j:Nat}{Q:PV->al->Prop}(X:gw C a O par bh mem mg)(hp:iL par)(hi:i<par.length)(hj:j<par.length)(P:root par i<par.length)(S:root par j<par.length)(hz:par.length<=100)(T:∀ms∈mem,ms.length<=100)(a2:mg.length<=100)(q0:root par i=root par j->Q (.d .none) O)(q:∀p g ah,(p=root par i/\g=root par j\/p=root par j/\g=root par i)->p<g->gw C a ah (par.set g p) bh (mem.set p<|mem.getD p []++mem.getD g []) (mg++[.d (.tup [.int p,.int g])])->(∀b,b∉a.own bh->ah b=O b)->Q (.d<|.tup [.int p,.int g]) ah):aW c (k+1+1) (.ref f) [.ref a.u,aY i,aY j] O Q:=by
 calc aE X.at_.ns λn σ r=>fi r λY a3 Z a5 _=>cY F rfl λV a8=>?_;lk;calc iG<|ba ?_;tm_at"m";lk;calc pP X.at_ U.cls MF (by decide+kernel) (by decide+kernel) (by decide+kernel) λg G=>?_;lk;calc Av U G X.at_ hp hi ((aB 139302408177) hz)<|ba ?_;tm_at"m";lk;calc pP X.at_ U.cls MF (by decide+kernel) (by decide+kernel) (by decide+kernel) λg G=>?_;lk;calc Av U G X.at_ hp hj ((aB 139302408177) hz) ?_;lk;calc⟨lb rfl,[.int (root par i:Nat),.int (root par j:Nat)],rfl,?_⟩;lk;calc Wj (is:=[((root par i:Nat):Int),((root par j:Nat):Int)]) (lb rfl) λjs a0 a1=>aE (ZT a0 a1) λp g r=>?_;have a6:=r.1;have z:=r.2.1;have H:=r.2.2;clear r;clear a1 a0;subst a6;calc DL Zx (by rfl) (by rfl)<|vy (by rfl)<|jL<|vy (by rfl)<|jL<|FV ?_;lk;calc fe et et<|⟨_,rfl,?_⟩;by_cases he:p=g
 .refine cB (decide_eq_true<|by rw[he]) ?_;lk;exact q0<|(aV 0x6311bf0af61a6350af63a6156a5) z he
 .refine cy (decide_eq_false<|by rw[Dt.int.injEq];calc(aq 0xd16f01f301f1d631) he) ?_
  have D:p<par.length:=(cK 0x73173573a1bf0af6500f6a10af6a00f651200f1d600f1) P S z H he;have I:g<par.length:=(cK 0x73173573a1bf0af6516a00f0af6a16500f2100fd6100f) P S z H he;have h:p<mem.length:=by rw[X.ml];exact D
  have l:g<mem.length:=by rw[X.ml];exact I
  have L:p<bh.length:=by rw[X.len];exact D
  have N:g<bh.length:=by rw[X.len];exact I
  have nd:=X.nd;have J:=X.join (p:=p) (g:=g) (mk:=mem[p]) (mo:=mem[g]) (v:= .d<|.tup [.int p,.int g]) D<|cR h;have k1:bh[p]∈bh:=gJ L;have hP:=X.has p _ _ (cR L)<|cR h;have hG:=X.has g _ _ (cR N)<|cR l;lk;calc⟨_,_,_,_,_,_,rfl,X.at_.ob,Y,a3,rfl,U.cls,U.above,?_⟩;lk;calc Zh X.at_.la (wA _) (by rw[au];assumption) (by unfold small;rw[au];calc aL hz<|by decide) ?_;rw[show(par.map aY).set ((g:Int)).toNat (PV.d<|Dt.int (p:Int))=(par.set g p).map aY by rw[hH,List.map_set];rfl];have g1:=(aC (O:=O) (m:= .lst<|(par.set g p).map aY)<|nq nd 0 2).trans X.at_.ob;have g2:=(aC (O:=O) (m:= .lst<|(par.set g p).map aY)<|nq nd 1 2).trans Y;have g3:=(aC (O:=O) (m:= .lst<|(par.set g p).map aY)<|nq nd 3 2).trans X.at_.ll;have g4:=(aC (O:=O) (m:= .lst<|(par.set g p).map aY)<|nq nd 4 2).trans X.at_.lm;have g5:=(aC (O:=O) (m:= .lst<|(par.set g p).map aY)<|oK nd 2 5 k1).trans hP;calc aU<|eG ?_;tm_at"m";lk;calc⟨_,_,_,_,_,_,rfl,g1,g2,Z,rfl,U.cls,U.bh,?_⟩;lk;calc li g3 (x:= .ref bh[p]) ((ax 0xef01f112f731735) h l) ((aV 0x8f20f01f120ff373175175a) hz D h l) (by rw[hH,dm,cR L];rfl) ?_;calc ij g5 rT BJ ?_;lk;calc⟨_,_,_,_,_,_,rfl,g1,g2,Z,rfl,U.cls,U.bh,?_⟩;lk;calc li g3 (x:= .ref bh[g]) ((ax 0xef01f112f753751) h l) ((aV 0x8f20f01f120ff37317a57a1) hz I h l) (by rw[hH,dm,cR N];rfl) ?_;lk;calc Jv (λe=>he<|(tW<|nd.sublist<|O3 5 _).mp e) g5 ((aC (O:=O) (m:= .lst<|(par.set g p).map aY)<|oK nd 2 5<|gJ N).trans hG) (by unfold small;rw[au,au];calc(cK 0x205f4317a57a00f20ff120ff3) h l (T _<|gJ h)<|T _<|gJ l) ?_;rw[show mem[p].map aY++mem[g].map aY=(mem[p]++mem[g]).map aY by rw[cb]];have r3:a.lm≠bh[p]:=(oK nd 4 5 k1).symm;calc aU<|eG ?_;tm_at"m";lk;calc⟨_,_,_,_,_,_,rfl,(aC<|(oK nd 0 5 k1).symm).trans g1,(aC<|(oK nd 1 5 k1).symm).trans g2,a5,rfl,U.cls,U.merged,ij ((aC r3).trans g4) lR mY<|ba<|cT ?_⟩;lk;calc⟨lb rfl,.inl ⟨[.int p,.int g],rfl,?_⟩⟩;lk;calc lF ((aC r3).trans g4) (by unfold small;calc(aV 0x205f120ff175375a) a2 h l)<|aU<|eX<|cT ?_;lk;calc⟨lb rfl,.inl ⟨[.int p,.int g],rfl,?_⟩⟩;have e1:mem.getD p []=mem[p]:=by simp[h]
  have e2:mem.getD g []=mem[g]:=by simp[l]
  calc q p g _ z ((ax 0x731231d631751753) H he h l) (by rw[e1,e2];calc J) λb hb=>uo (nm hb 4)<|uo (λe=>Ip hb 5<|e▸k1)<|aC<|nm hb 2
theorem Bb{f:Addr}{st:Stmt}{j:List PV}{Q:PV->al->Prop}(F:Fn c f st)(g:j.length=(lg st).length)(h:∀V:Env,V.scope=jy st->WB c k V (tE ((lg st).zip j) λZ=>none) (AE st) O λfl ah Z=>Q fl.val ah):kP c (k+1) (.ref f) j O Q:=MM F g h
theorem dE(h:upd O a m b=none):b≠a/\O b=none:=by
 unfold upd at h;split at h
 .exact cU h
 .rename_i g;calc⟨g,h⟩
theorem TJ{C:Addr}(U:UC c C){H:Addr}(N:iY c C (ak "__init__") H)(F:Fn c H<|bj (aK 18) 0){Q:PV->al->Prop}(q:∀(a:kO) ah,gw C a ah [] [] [] []->(∀b∈a.own [],O b=none)->(∀b,b∉a.own []->ah b=O b)->Q (.ref a.u) ah):aW c (k+1+1) (.ref C) [] O Q:=by
 calc kP.toT<|call_cls U.cls N λa dx P z j=>Bb F rfl λV S=>aU<|cz<|iV ?_;lk;calc⟨lb rfl,λla m=>aw (dE m) λn1 m=>aw (dE m) λn2 m=>jg ?_⟩;lk;calc⟨a,C,dx,_,_,rfl,(aC<|cI n1).trans bo,(aC<|cI n2).trans<|(aC<|cI j).trans bo,cO _,U.cls,U.above,aU<|cz<|iV ?_⟩;lk;calc⟨lb rfl,λll h=>aw (dE h) λp h=>aw (dE h) λI h=>aw (dE h) λr h=>aw (dE h) λX h=>jg ?_⟩;lk;calc⟨a,C,dx,_,_,rfl,(aC<|cI r).trans<|(aC j).trans<|(aC<|cI n1).trans bo,(aC<|cI p).trans bo,(dL 34010254),U.cls,U.bh,aU<|cz<|iV ?_⟩;lk;calc⟨lb rfl,λlm g=>aw (dE g) λl1 g=>aw (dE g) λl2 g=>aw (dE g) λY g=>aw (dE g) λJ g=>aw (dE g) λD g=>aw (dE g) λZ g=>jg ?_⟩;lk;calc⟨a,C,dx,_,_,rfl,(aC<|cI D).trans<|(aC j).trans<|(aC<|cI r).trans<|(aC j).trans<|(aC<|cI n1).trans bo,(aC<|cI l1).trans bo,(dL 8706622606),U.cls,U.merged,?_⟩;lk;refine⟨rfl,q {u:=a,dx:=dx,la:=la,ll:=ll,lm:=lm} _ {at_:={ob:= ?_,ns:=bv _ _<|km bo ?_ ?_ ?_ ?_,la:= ?_,ll:= ?_,lm:= ?_},len:=rfl,ml:=rfl,has:=λi l ms h1 L=>by simp at h1,nd:= ?_} ?_ ?_⟩
 .exact uo j<|uo D.symm<|uo j<|uo r.symm<|uo j<|uo n1.symm bo
 .rfl
 .rfl
 .rfl
 .intro x h1 L T;unfold aZ;rw[if_neg T,if_neg L,if_neg h1]
 .exact uo n2<|uo J.symm<|uo n2<|uo I.symm<|uo n2 bo
 .exact uo p<|uo l2.symm<|uo p bo
 .exact uo l1 bo
 .exact pR (fa j<|fa n1.symm<|fa r.symm<|fa D.symm dF)<|pR (fa n2.symm<|fa p.symm<|fa l1.symm dF)<|pR (fa I.symm<|fa J.symm dF)<|pR (fa l2.symm dF) uM
 .exact fa P<|fa z<|fa m<|fa h<|fa g dF
 .exact λb hb=>uo (nm hb 1)<|uo (nm hb 4)<|uo (nm hb 1)<|uo (nm hb 3)<|uo (nm hb 1)<|uo (nm hb 2)<|uo (nm hb 0)<|aC<|nm hb 1
noncomputable def Bv(g:Nat):PV:= .d<|.str ⟨#[g]⟩
theorem C9:∀(cs:List Nat) (i:Nat) (j:Obj),j.cls= .type "str_ascii_iterator"->j.data= .fields #[.str x t,.int i 0]->cs=x.cps.toList.drop i->ji c tgt I (cs.map Bv) (one I j) B:=by
 intro q;induction q with
 |nil=>
  intro i j h1 r h
  exact λA s P z C=>by
   have D:x.cps[i]? =none:=by have:x.cps.toList.drop i=[]:=h.symm;rw[<-fj];rw[BP] at this;exact qp this
   calc wpAny_pyNext_ascii_end P ⟨_,(z _ _<|gv ..),h1,r⟩ D λh' H=>⟨rfl,Kept.of _ (I:=I) (by rw[gv];simp) rfl rfl λa ob g e=>H a ob g e⟩
 |cons U cs X=>
  intro i j h1 r h
  exact λA s P z C=>by
   have D:x.cps[i]? =some U:=by have:=congrArg (·[0]?) h;simpa using this.symm
   have J:cs=x.cps.toList.drop (i+1):=by simpa using(congrArg um h)
   calc wpAny_pyNext_ascii_item ⟨_,(z _ _<|gv ..),h1,r⟩ D λh' l L=>⟨_,rfl,?_⟩;obtain⟨S,m,p,N⟩:=l;calc Az m (λn T=>by rw[p] at T;cases T;decide) ⟨one I S,λZ=>none,Kept.of _ (I:=I) (by rw[gv];simp) rfl rfl λa ob g e=>L.extBut a ob g e,one_sub,oB m,(λZ Z e=>by calc bp e),(λZ e=>absurd rfl e),⟨_,rfl⟩,X (i+1) S p N J⟩
inductive WX (P:List PV->al->Prop) (p:PV) (O:al):Prop
 |mk (x:Str) (e:p= .d (.str x)) (hx:x.cps.all (·<128)=true) (q:P (x.cps.toList.map Bv) O)
theorem Yl(h:WE c k V ρ e O<|WX P):ky c k V ρ e tgt O P:= .mk λA B R s r S L=>by
 calc aS (h.1 A B R s r S L) (λv s₁ h₁=>?_) λZ Z x=>x;obtain⟨m,j,p,l₁,g,z,x,rfl,C,q⟩:=h₁;obtain⟨t,rfl⟩:=z;calc wpAny_pyIter_ascii C ?_;have l:(s₁.heap.push {cls:= .type "str_ascii_iterator",data:= .fields #[.str x t,.int 0 0]}).get? s₁.heap.objs.size=some {cls:= .type "str_ascii_iterator",data:= .fields #[.str x t,.int 0 0]}:=dy _ rfl;refine⟨m,j,one s₁.heap.objs.size {cls:= .type "str_ascii_iterator",data:= .fields #[.str x t,.int 0 0]},s₁.heap.objs.size,x.cps.toList.map Bv,rfl,l₁,g.push _,oB l,λb hb=>?_,C9 x.cps.toList 0 _ rfl rfl rfl,λA s D=>wpAny_pyIter_striter_ascii (i:=0) ⟨_,D _ _<|gv ..,rfl,rfl⟩ ⟨rfl,rfl⟩,q⟩
 .have:b=s₁.heap.objs.size:=gX λH=>hb (by unfold one;rw[if_neg H]);clear hb;subst this;calc g.fresh
noncomputable def qb(x:Str):Prop:=x=ak "a"\/x=ak "b"\/x=ak "f"\/x=ak "p"
theorem qb.facts(h:qb x):gp x=true/\x≠ak ""/\x.cps.all (·<128)=true/\x.cps.toList.all (λg=> !Txt.isspace ⟨#[g]⟩&& !Txt.contains (ak "()[]{},:") ⟨#[g]⟩&&gp ⟨#[g]⟩)=true/\x.cps.size=1:=by rcases h with rfl|rfl|rfl|rfl<;>calc km (by decide+kernel) (by decide+kernel) (by decide+kernel) (by decide+kernel)<|by decide+kernel
theorem vq:mU (.lst []):=⟨rfl,rfl,Om rfl⟩
theorem Vc(F:Fn c f<|aK 6)(p:qb x)(q:Q (.d<|.bool true) O):aW c (k+1) (.ref f) [.d (.str x)] O Q:=by
 calc fi p.facts λh1 r z C I=>cY F rfl λV m=>?_;lk;calc kU (ie h1) (ie<|by decide+kernel)<|⟨_,rfl,cB (by rw[decide_eq_false (by rw[Dt.str.injEq];calc r)];rfl)<|sD (by rfl)<|gN (by rw[m];rfl) (λZ=>rfl)<|Yl ?_⟩;lk;refine⟨x,rfl,z,xi (g:=Bv) (l:=x.cps.toList) (by rfl) (λZ=>[]) (λZ ah=>ah=O) rfl rfl rfl ?_ ?_⟩
 .intro cenv D done H cs ah hc T hd h;clear q;subst h
  ·
   have j:=jb.mp C H<|mid hd;simp only[tX,O6] at j;calc⟨lb rfl,jL ⟨T.aZ (by rfl) _,xP<|rF<|rL<|uT ?_⟩⟩;tm_at"m";lk;calc Zt F5 PySem.F.type_str_isspace ?_;lk;calc Ws ?_;rw[j.1.1];calc⟨_,rfl,cy rfl<|rL<|lP (by rfl) ?_⟩;lk;calc Vz ?_;rw[j.1.2];exact⟨_,rfl,cy rfl<|rH<|cy rfl<|⟨rfl,rfl⟩⟩
 .intro ah h;subst h;calc iG ?_;lk;calc⟨lb rfl,[],rfl,fe vq vq ?_⟩;rw[decide_eq_true rfl];calc q
structure BC(c:Cx)(C:Addr):Prop where
 cls:jp c C
 nodes:ic c C<|ak "nodes"
 xD:ic c C<|ak "numbers"
 DW:ic c C<|ak "weights"
 dG:ic c C<|ak "depths"
structure lp where
 b:Addr
 dx:Addr
 ln:Addr
 dn:Addr
 lw:Addr
 ld:Addr
structure Nd where
 op:Str
 kids:List Nat
noncomputable def Nd.dt(n:Nd):Dt:= .tup (.str n.op::n.kids.map λi=> .int (i:Nat))
structure qM(C:Addr)(a:lp)(O:al)(nodes:List Nd)(ws ds:List Int):Prop where
 ob:O a.b=some (.inst C a.dx)
 ns:∃n σ,O a.dx=some (.ns n σ)/\σ (ak "nodes")=some (.ref a.ln)/\σ (ak "numbers")=some (.ref a.dn)/\σ (ak "weights")=some (.ref a.lw)/\σ (ak "depths")=some (.ref a.ld)/\ ∀x,x≠ak "nodes"->x≠ak "numbers"->x≠ak "weights"->x≠ak "depths"->σ x=none
 ln:O a.ln=some (.lst<|nodes.map λn=> .d n.dt)
 dn:O a.dn=some (.aM<|nodes.mapIdx λi n=>(n.dt,aY i))
 lw:O a.lw=some (.lst<|ws.map λi=> .d<|.int i)
 ld:O a.ld=some (.lst<|ds.map λi=> .d<|.int i)
theorem uK{C:Addr}{a:lp}{nodes:List Nd}{ws ds:List Int}(X:qM C a O nodes ws ds)(l:jp c C){x:Str}{st:Stmt}(M:df c C x st)(h1:x≠ak "nodes")(m:x≠ak "numbers")(q:x≠ak "weights")(r:x≠ak "depths"){P:Value->List PV->Prop}(p:∀f,Fn c f st->P (.ref f) [.ref a.b]):nL c (.ref a.b) x O P:=by calc aE X.ns λn σ g=>gS g λh Z Z Z Z j=>?_;obtain⟨f,hm,hk,z⟩:=M;calc yp X.ob h (j x h1 m q r) l hm<|p f z
theorem UL(U:BC c C)(l:eO c "len")(F:Fn c f<|bj (aK 11) 1)(X:qM C a O nodes ws ds)(hz:nodes.length<=1000)(q:Q (aY nodes.length) O):aW c (k+1) (.ref f) [.ref a.b] O Q:=by calc aE X.ns λn σ g=>aN g λh j Z=>cY F rfl λV m=>?_;lk;calc⟨_,_,_,_,_,_,rfl,X.ob,h,j,rfl,U.cls,U.nodes,?_⟩;lk;calc jm X.ln (by unfold small;rw[au];calc iN hz) ?_;rw[au];calc q
theorem RU(U:BC c C)(F:Fn c f<|bj (aK 11) 7)(X:qM C a O nodes ws ds)(hi:i<nodes.length)(hz:nodes.length<=1000)(q:Q (.d<|.str nodes[i].op) O):aW c (k+1) (.ref f) [.ref a.b,aY i] O Q:=by calc aE X.ns λn σ g=>aN g λh j Z=>cY F rfl λV l=>?_;lk;calc⟨_,_,_,_,_,_,rfl,X.ob,h,j,rfl,U.cls,U.nodes,?_⟩;lk;calc li X.ln (x:= .d nodes[i].dt) (mf) ((aq 0x8f20f01f1731206f3) hi hz) (by rw[hH,dm,cR hi];rfl) ?_;lk;calc eY (eT) (eV) rfl q
theorem Zu(U:BC c C)(F:Fn c f<|bj (aK 11) 8)(X:qM C a O nodes ws ds)(hi:i<nodes.length)(hz:nodes.length<=1000)(hk:nodes[i].kids.length<=1000)(q:Q (.d<|.tup<|nodes[i].kids.map λj=> .int (j:Nat)) O):aW c (k+1) (.ref f) [.ref a.b,aY i] O Q:=by calc aE X.ns λn σ g=>aN g λh l Z=>cY F rfl λV m=>?_;lk;calc⟨_,_,_,_,_,_,rfl,X.ob,h,l,rfl,U.cls,U.nodes,?_⟩;lk;calc li X.ln (x:= .d nodes[i].dt) ((aq 0xef01f112f731) hi) ((aq 0x8f20f01f1731206f3) hi hz) (by rw[hH,dm,cR hi];rfl) ?_;calc il (lb rfl) (by unfold small;rw[bP,au];calc(ax 569527514564337) hi hk) q
theorem C8(U:BC c C)(F:Fn c f<|bj (aK 11) 9)(X:qM C a O nodes ws ds)(hi:i<nodes.length)(hz:nodes.length<=1000)(q:Q (.d nodes[i].dt) O):aW c (k+1) (.ref f) [.ref a.b,aY i] O Q:=by calc aE X.ns λn σ g=>aN g λh j Z=>cY F rfl λV l=>?_;lk;calc⟨_,_,_,_,_,_,rfl,X.ob,h,j,rfl,U.cls,U.nodes,?_⟩;lk;calc li X.ln (x:= .d nodes[i].dt) (mf) ((aq 0x8f20f01f1731206f3) hi hz) (by rw[hH,dm,cR hi];rfl) q
theorem YF(G:Glob c (ak "is_op")<|aK 6)(F:Fn c f<|bj (aK 11) 3)(h:qb x)(q:Q (.d .none) O):aW c (k+1+1) (.ref f) [.ref b,.d (.str x)] O Q:=by
 calc cY F rfl λV l=>?_;lk;calc rF<|rL<|Fb<|uT ?_;calc eh G λZ Z=>?_;lk;calc Vc ‹_› h ⟨_,rfl,cy rfl<|rL ?_⟩;lk
 obtain⟨g,h1,j⟩:∃g,x.cps[(0:Int).toNat]? =some g/\gp ⟨#[g]⟩=true/\(⟨#[g]⟩:Str)≠ak "?":=by
  rcases h with rfl|rfl|rfl|rfl
  .exact⟨97,aR (by decide+kernel) (by decide+kernel)<|by decide+kernel⟩
  .exact⟨98,aR (by decide+kernel) (by decide+kernel)<|by decide+kernel⟩
  .exact⟨102,aR (by decide+kernel) (by decide+kernel)<|by decide+kernel⟩
  .exact⟨112,aR (by decide+kernel) (by decide+kernel)<|by decide+kernel⟩
 calc Ee (eT) (eV) h1 ?_;lk;calc fe (ie j.1) (ie<|by decide+kernel) ⟨_,rfl,cy (decide_eq_false<|by rw[Dt.str.injEq];calc j.2)<|rH<|cy rfl ?_⟩;lk;calc q
noncomputable def numbered(nodes:List Nd):List (Dt×PV):=nodes.mapIdx λi n=>(n.dt,aY i)
theorem VE(h:nodes[i]? =some nd):(numbered nodes)[i]? =some (nd.dt,aY i):=by unfold numbered;rw[yK,h];rfl
theorem FY(nodes:List Nd):(numbered nodes).map (·.1)=nodes.map Nd.dt:=by apply yO;intro i;rw[dm,dm];unfold numbered;rw[yK];cases nodes[i]? <;>rfl
theorem D2(nodes:List Nd):(numbered nodes).length=nodes.length:=by unfold numbered;simp
theorem LW(g:(nodes.map Nd.dt).Nodup)(h:nodes[i]? =some nd):dH (numbered nodes) nd.dt=some (aY i):=wg (by rw[FY];calc g)<|VE h
theorem Yx{nodes:List Nd}{nd:Nd}(h:nd.dt∉nodes.map Nd.dt):dH (numbered nodes) nd.dt=none:=yy<|by rw[FY];calc h
theorem Uv(h:nd.dt∉nodes.map Nd.dt):dput (numbered nodes) nd.dt (aY nodes.length)=numbered (nodes++[nd]):=by unfold dput;rw[FY,if_neg h];unfold numbered;rw[OA];simp
theorem EL{nd:Nd}(h:gp nd.op=true):Flat nd.dt:=⟨nd.op,_,rfl,h,λx l=>by calc ai (bb.mp l) λi g=>aw g λZ j=>?_;clear g;clear l;subst j;calc⟨_,rfl⟩⟩
theorem wf{nd:Nd}(h:gp nd.op=true):Key nd.dt:=⟨(EL h).key,by have:=(EL h).depth;calc(aB 567218817) this⟩
noncomputable def lp.own(a:lp):List Addr:=[a.b,a.dx,a.ln,a.dn,a.lw,a.ld]
structure jO(C:Addr)(a:lp)(O:al)(nodes:List Nd)(ws ds:List Int):Prop where
 at_:qM C a O nodes ws ds
 wl:ws.length=nodes.length
 dl:ds.length=nodes.length
 uniq:(nodes.map Nd.dt).Nodup
 nd:a.own.Nodup
theorem Vi(U:BC c C)(m:fJ c "tuple")(F:Fn c f<|bj (aK 11) 2)(X:jO C a O nodes ws ds)(hi:nodes[i]? =some nd)(h:gp nd.op=true)(hz:nodes.length<=1000)(hk:nd.kids.length<=1000)(q:Q (aY i) O):aW c (k+1) (.ref f) [.ref a.b,.d<|.str nd.op,.d (.tup<|nd.kids.map λj=> .int (j:Nat))] O Q:=by calc aE X.at_.ns λn σ l=>bV l λg h1 p Z=>cY F rfl λV r=>aU<|cz<|iD<|cT ?_;lk;calc⟨lb rfl,.inl ⟨[.str nd.op],rfl,?_⟩⟩;lk;calc Mf<|qi (by unfold small;rw[au];simp;calc(aB 35593493022449) hk) ?_;rw[show Dt.tup ([Dt.str nd.op]++qB (λj:Nat=>Dt.int (j:Int)) nd.kids)=nd.dt from rfl];lk;calc⟨_,_,_,_,_,_,rfl,X.at_.ob,g,p,rfl,U.cls,U.xD,Jk X.at_.dn (wf h) ⟨_,rfl,?_⟩⟩;rw[show dH (nodes.mapIdx λi n=>(n.dt,aY i)) nd.dt=some (aY i) from LW X.uniq hi];calc cB rfl ?_;lk;calc⟨_,_,_,_,_,_,rfl,X.at_.ob,g,p,rfl,U.cls,U.xD,?_⟩;lk;calc pL X.at_.dn (wf h).key (wf h).dZ (LW X.uniq hi) q
noncomputable def EZ(ws:List Int):Dt->Dt
 | .int j=> .int<|ws.getD j.toNat 0
 |_=> .none
theorem Jt(ws:List Int)(l:List Nat):(l.map λj=>Dt.int (j:Nat)).map (EZ ws)=(l.map λj=>ws.getD j 0).map .int:=by rw[bg,bg];rfl
theorem jO.more{a:lp}{nodes:List Nd}{ws ds:List Int}(X:jO C a O nodes ws ds){nd:Nd}{w d:Int}(h:nd.dt∉nodes.map Nd.dt):jO C a (upd (upd (upd (upd O a.dn<|.aM<|numbered<|nodes++[nd]) a.ln<|.lst<|(nodes++[nd]).map λn=> .d n.dt) a.lw<|.lst<|(ws++[w]).map λi=> .d<|.int i) a.ld<|.lst<|(ds++[d]).map λi=> .d<|.int i) (nodes++[nd]) (ws++[w]) (ds++[d]):=by
 have g:=X.nd;calc aE X.at_.ns λn σ j=>?_;refine{at_:={ob:= ?_,ns:=bv n σ ⟨?_,j.2⟩,ln:= ?_,dn:= ?_,lw:= ?_,ld:=bo},wl:=by simp[X.wl],dl:=by simp[X.dl],uniq:= ?_,nd:=X.nd}
 .exact uo (nq g 0 5)<|uo (nq g 0 4)<|uo (nq g 0 2)<|uo (nq g 0 3) X.at_.ob
 .exact uo (nq g 1 5)<|uo (nq g 1 4)<|uo (nq g 1 2)<|uo (nq g 1 3) j.1
 .exact uo (nq g 2 5)<|uo (nq g 2 4) bo
 .exact uo (nq g 3 5)<|uo (nq g 3 4)<|uo (nq g 3 2) bo
 .exact uo (nq g 4 5) bo
 .rw[cb];calc kg X.uniq h
theorem VZ(U:BC c C)(a8:eO c "len")(a9:fJ c "tuple")(b0:eO c "sum")(b1:eO c "max")(G:Glob c (ak "is_op")<|aK 6)(MR:df c C (ak "require")<|bj (aK 11) 3)(F:Fn c f<|bj (aK 11) 2){a:lp}{nodes:List Nd}{ws ds:List Int}{nd:Nd}{Q:PV->al->Prop}(X:jO C a O nodes ws ds)(hi:nd.dt∉nodes.map Nd.dt)(ho:qb nd.op)(hz:nodes.length<=100)(hk:nd.kids.length<=100)(hv:∀j∈nd.kids,j<nodes.length)(q:∀ah w d,jO C a ah (nodes++[nd]) (ws++[w]) (ds++[d])->(∀b,b∉a.own->ah b=O b)->Q (aY nodes.length) ah):aW c (k+1+1+1) (.ref f) [.ref a.b,.d<|.str nd.op,.d (.tup<|nd.kids.map λj=> .int (j:Nat))] O Q:=by
 calc aE X.at_.ns λn σ p=>gS p λD h1 h2 h3 h4 _=>?_;have hs:=ho.facts.1;calc cY F rfl λV S=>aU<|cz<|iD<|cT ?_;lk;calc⟨lb rfl,.inl ⟨[.str nd.op],rfl,?_⟩⟩;lk;calc Mf<|qi (by unfold small;rw[au];simp;calc(aB 35593493024753) hk) ?_;rw[show Dt.tup ([Dt.str nd.op]++qB (λj:Nat=>Dt.int (j:Int)) nd.kids)=nd.dt from rfl];lk;calc⟨_,_,_,_,_,_,rfl,X.at_.ob,D,h2,rfl,U.cls,U.xD,Jk X.at_.dn (wf hs) ⟨_,rfl,?_⟩⟩;rw[show dH (nodes.mapIdx λi n=>(n.dt,aY i)) nd.dt=none from Yx hi];calc cy rfl<|cE<|aU<|eG ?_;tm_at"m";lk;calc uK X.at_ U.cls MR (by decide+kernel) (by decide+kernel) (by decide+kernel) (by decide+kernel) λg hG=>?_;lk;calc YF G hG ho<|aU<|gD (λ_=>rfl)<|oq ?_;lk;refine il (lb rfl) (by unfold small;rw[bP,au];calc(aB 139044458481) hk)<|⟨_,rfl,xq (g:=aY) (l:=nd.kids) [ak "kid"] (λ_ _=>True) (by rw[uf,uc,bg];rfl) trivial ?_ ?_⟩
 .intro done j b2 a3 Q1 hd _ Y a5;have r:=Y.tr (x:=ak "self") rfl rfl
  ·
   lk;calc Fb<|TR (by rfl) ?_;lk;calc⟨_,rfl,cB (decide_eq_true<|mf) ?_⟩;lk;tm_at"c";calc⟨_,_,_,_,_,_,rfl,X.at_.ob,D,h1,rfl,U.cls,U.nodes,?_⟩;lk;calc jm X.at_.ln (by unfold small;rw[au];calc Q9 hz) ?_;lk;calc⟨_,rfl,cy (by rw[decide_eq_true (by rw[au];calc(aq 0x8f01f301f1731)<|hv j<|mid hd)];rfl) ?_⟩;lk;exact a5 _ trivial<|Y.set rfl
 .intro a3 _ Y;have r:=Y.tr (x:=ak "self") rfl rfl;have zq:=Y.tr (x:=ak "node") rfl rfl;calc aU<|cz ?_;lk;tm_at"c";calc⟨_,_,_,_,_,_,rfl,X.at_.ob,D,h1,rfl,U.cls,U.nodes,?_⟩;lk;calc jm X.at_.ln (by unfold small;rw[au];calc Q9 hz) ?_;lk;tm_at"c";calc⟨_,_,_,_,_,_,rfl,X.at_.ob,D,h2,rfl,U.cls,U.xD,?_⟩;lk;tm_at"c";calc pN X.at_.dn (wf hs) (by have:=D2 nodes;unfold numbered at this;unfold small;calc(aq 569483152274993) hz this) ?_;rw[show dput (nodes.mapIdx λi n=>(n.dt,aY i)) nd.dt (PV.d<|Dt.int ((nodes.map λn=>PV.d n.dt).length:Nat))=numbered (nodes++[nd]) by rw[au];calc Uv hi];have h:=X.nd;generalize hA:MO.aM (numbered<|nodes++[nd])=H;calc aU<|eG ?_;tm_at"m";lk;tm_at"c";calc⟨_,_,_,_,_,_,rfl,(aC<|nq h 0 3).trans X.at_.ob,(aC<|nq h 1 3).trans D,h1,rfl,U.cls,U.nodes,ij ((aC<|nq h 2 3).trans X.at_.ln) lR mY ?_⟩;lk;tm_at"c";lk;calc lF ((aC<|nq h 2 3).trans X.at_.ln) (by unfold small;rw[au];calc Q9 hz) ?_;rw[show(nodes.map λn=>PV.d n.dt)++[PV.d nd.dt]=(nodes++[nd]).map λn=>PV.d n.dt by rw[cb];rfl];generalize hB:MO.lst ((nodes++[nd]).map λn=>PV.d n.dt)=I;have J:=((aC (O:=upd O a.dn H) (m:=I)<|nq h 0 2).trans<|(aC<|nq h 0 3).trans X.at_.ob);have L:=((aC (O:=upd O a.dn H) (m:=I)<|nq h 1 2).trans<|(aC<|nq h 1 3).trans D);have sM:=((aC (O:=upd O a.dn H) (m:=I)<|nq h 4 2).trans<|(aC<|nq h 4 3).trans X.at_.lw);calc aU<|eG ?_;tm_at"m";lk;tm_at"c";calc⟨_,_,_,_,_,_,rfl,J,L,h3,rfl,U.cls,U.DW,ij sM lR mY<|ba<|iD ?_⟩;lk;calc gN (by rw[S];rfl) (λ_=>rfl)<|oq ?_;lk;tm_at"c";refine il (lb rfl) (by unfold small;rw[bP,au];calc(aB 139044458481) hk)<|⟨_,rfl,mP (nd.kids.map λj=> .int (j:Nat)) (EZ ws) (by rfl) (by unfold small;rw[au];calc Q9 hk) (λcenv hc=>by tm_at"k") ?_ ?_⟩
  .refine λcenv Z d hc T hd hm=>ai (bb.mp hm) λj p=>?_;have hj:=p.1;have N:=p.2;clear p;clear hm;subst N
   have z:j<ws.length:=by rw[X.wl];exact hv j hj
   lk;calc cf (by rw[T _ (by rfl)];calc r)<|⟨_,_,_,_,_,_,rfl,J,L,h3,rfl,U.cls,U.DW,?_⟩;lk;tm_at"c";refine li sM (mf) (by have:=X.wl;calc(ax 0x8f20f01f120ff3751635) hz z this) (x:= .d<|.int<|ws.getD j 0) (by rw[hH,dm,cR z];simp[z]) ⟨rfl,rfl⟩
  lk;rw[Jt];calc RE λw=>?_;lk;calc lF sM (by unfold small;rw[au,X.wl];calc Q9 hz) ?_;rw[show(ws.map λi=>PV.d<|.int i)++[PV.d (.int<|1+w)]=(ws++[1+w]).map λi=>PV.d (.int i) by rw[cb];rfl];generalize hC:MO.lst ((ws++[1+w]).map λi=>PV.d<|.int i)=mC;have a0:=((aC (O:=upd (upd O a.dn H) a.ln I) (m:=mC)<|nq h 0 4).trans J);have a1:=((aC (O:=upd (upd O a.dn H) a.ln I) (m:=mC)<|nq h 1 4).trans L);have P:=((aC (O:=upd (upd O a.dn H) a.ln I) (m:=mC)<|nq h 5 4).trans<|((aC (O:=upd O a.dn H) (m:=I)<|nq h 5 2).trans<|(aC<|nq h 5 3).trans X.at_.ld));calc aU<|eG ?_;tm_at"m";lk;tm_at"c";calc⟨_,_,_,_,_,_,rfl,a0,a1,h4,rfl,U.cls,U.dG,ij P lR mY<|ba<|iD ?_⟩;lk;calc gN (by rw[S];rfl) (λ_=>rfl)<|oq ?_;lk;tm_at"c";refine il (lb rfl) (by unfold small;rw[bP,au];calc(aB 139044458481) hk)<|⟨_,rfl,mP (nd.kids.map λj=> .int (j:Nat)) (EZ ds) (by rfl) (by unfold small;rw[au];calc Q9 hk) (λcenv hc=>by tm_at"k") ?_ ?_⟩
  .refine λcenv Z d hc T hd hm=>ai (bb.mp hm) λj p=>?_;have hj:=p.1;have N:=p.2;clear p;clear hm;subst N
   have z:j<ds.length:=by rw[X.dl];exact hv j hj
   lk;calc cf (by rw[T _ (by rfl)];calc r)<|⟨_,_,_,_,_,_,rfl,a0,a1,h4,rfl,U.cls,U.dG,?_⟩;lk;tm_at"c";refine li P (mf) (by have:=X.dl;calc(ax 0x8f20f01f120ff3751635) hz z this) (x:= .d<|.int<|ds.getD j 0) (by rw[hH,dm,cR z];simp[z]) ⟨rfl,rfl⟩
  calc iG ?_;lk;calc⟨lb rfl,[.int 0],rfl,Ay (by unfold small;simp only[au,bP,Hl];calc(aB 9111947300704241) hk) ?_⟩;rw[Jt,show(nd.kids.map λj=>ds.getD j 0).map Dt.int++[Dt.int 0]=((nd.kids.map λj=>ds.getD j 0)++[0]).map Dt.int by rw[cb];rfl];lk;calc QG (by simp) λd=>?_;lk;calc lF P (by unfold small;rw[au,X.dl];calc Q9 hz) ?_;rw[show(ds.map λi=>PV.d<|.int i)++[PV.d (.int<|1+d)]=(ds++[1+d]).map λi=>PV.d (.int i) by rw[cb];rfl];have M:=X.more (nd:=nd) (w:=1+w) (d:=1+d) hi;have fr:∀b,b∉a.own->upd (upd (upd (upd O a.dn H) a.ln I) a.lw mC) a.ld (.lst<|(ds++[1+d]).map λi=>PV.d<|.int i) b=O b:=λb hb=>by unfold lp.own at hb;simp only[dD,not_or,wB,or_false] at hb;calc gS hb λ_ _ g3 g4 g5 g6=>?_;rw[aC g6,aC g5,aC g3,aC g4]
  rw[hA,hB,hC] at M;generalize upd (upd (upd (upd O a.dn H) a.ln I) a.lw mC) a.ld (.lst<|(ds++[1+d]).map λi=>PV.d<|.int i)=a6 at M fr|-;calc aE M.at_.ns λn4 b3 p=>aN p λa2 a7 _=>?_;lk;tm_at"c";calc⟨_,_,_,_,_,_,rfl,M.at_.ob,a2,a7,rfl,U.cls,U.nodes,?_⟩;lk;calc jm M.at_.ln (by unfold small;rw[au,bA];simp;calc(aB 148429213681) hz) ?_;lk;rw[show(PV.d<|Dt.int<|(((nodes++[nd]).map λn=>PV.d n.dt).length:Nat) -1)=aY nodes.length by rw[au,bA];show PV.d (Dt.int _)=PV.d (Dt.int _);congr 2;simp];calc(q a6 _ _ M fr)
theorem TC(U:BC c C)(T:iY c C (ak "__init__") X)(F:Fn c X<|bj (aK 11) 0)(q:∀(a:lp) ah,jO C a ah [] [] []->(∀b∈a.own,O b=none)->(∀b,b∉a.own->ah b=O b)->Q (.ref a.b) ah):aW c (k+1+1) (.ref C) [] O Q:=by
 calc kP.toT<|call_cls U.cls T λa dx Y D j=>Bb F rfl λV Z=>aU<|cz<|iV ?_;lk;calc⟨lb rfl,λln m=>aw (dE m) λn1 m=>aw (dE m) λn2 m=>jg ?_⟩;lk;calc⟨a,C,dx,_,_,rfl,(aC<|cI n1).trans bo,(aC<|cI n2).trans<|(aC<|cI j).trans bo,cO _,U.cls,U.nodes,aU<|cz<|lG λdn l=>aw (dE l) λp l=>aw (dE l) λJ l=>aw (dE l) λr l=>aw (dE l) λm4 l=>jg ?_⟩;lk;calc⟨a,C,dx,_,_,rfl,(aC<|cI r).trans<|(aC j).trans<|(aC<|cI n1).trans bo,(aC<|cI p).trans bo,(dL 34010254),U.cls,U.xD,aU<|cz<|iV ?_⟩;lk;calc⟨lb rfl,λlw h=>aw (dE h) λl1 h=>aw (dE h) λl2 h=>aw (dE h) λl3 h=>aw (dE h) λL h=>aw (dE h) λz h=>aw (dE h) λl6 h=>jg ?_⟩;lk;calc⟨a,C,dx,_,_,rfl,(aC<|cI z).trans<|(aC j).trans<|(aC<|cI r).trans<|(aC j).trans<|(aC<|cI n1).trans bo,(aC<|cI l1).trans bo,(dL 8706622606),U.cls,U.DW,aU<|cz<|iV ?_⟩;lk;calc⟨lb rfl,λld g=>aw (dE g) λH g=>aw (dE g) λN g=>aw (dE g) λd3 g=>aw (dE g) λP g=>aw (dE g) λd5 g=>aw (dE g) λS g=>aw (dE g) λI g=>aw (dE g) λd8 g=>jg ?_⟩;lk;calc⟨a,C,dx,_,_,rfl,(aC<|cI I).trans<|(aC j).trans<|(aC<|cI z).trans<|(aC j).trans<|(aC<|cI r).trans<|(aC j).trans<|(aC<|cI n1).trans bo,(aC<|cI H).trans bo,(dL 2228895384718),U.cls,U.dG,?_⟩;lk;refine⟨rfl,q {b:=a,dx:=dx,ln:=ln,dn:=dn,lw:=lw,ld:=ld} _ {at_:={ob:=(uo j<|uo I.symm<|uo j<|uo z.symm<|uo j<|uo r.symm<|uo j<|uo n1.symm bo),ns:=bv _ _<|tG bo ?_ ?_ ?_ ?_ ?_,ln:=(uo n2<|uo S.symm<|uo n2<|uo L.symm<|uo n2<|uo J.symm<|uo n2 bo),dn:=(uo p<|uo P.symm<|uo p<|uo l2.symm<|uo p bo),lw:=(uo l1<|uo N.symm<|uo l1 bo),ld:=(uo H bo)},wl:=rfl,dl:=rfl,uniq:=hX,nd:=(pR (fa j<|fa n1.symm<|fa r.symm<|fa z.symm<|fa I.symm dF)<|pR (fa n2.symm<|fa p.symm<|fa l1.symm<|fa H.symm dF)<|pR (fa J.symm<|fa L.symm<|fa S.symm dF)<|pR (fa l2.symm<|fa P.symm dF)<|pR (fa N.symm dF) uM)} (fa Y<|fa D<|fa m<|fa l<|fa h<|fa g dF) λb hb=>uo (nm hb 1)<|uo (nm hb 5)<|uo (nm hb 1)<|uo (nm hb 4)<|uo (nm hb 1)<|uo (nm hb 3)<|uo (nm hb 1)<|uo (nm hb 2)<|uo (nm hb 0)<|aC<|nm hb 1⟩
 .rfl
 .rfl
 .rfl
 .rfl
 .intro x h1 h2 h3 h4;unfold aZ;rw[if_neg h4,if_neg h3,if_neg h2,if_neg h1]
structure HC(c:Cx)(C:Addr):Prop where
 cls:jp c C
 vG:ic c C<|ak "bank"
 tj:ic c C<|ak "unions"
 jk:ic c C<|ak "edges"
 lj:ic c C<|ak "forest"
 known:ic c C<|ak "known"
 above:ic c C<|ak "above"
 waiting:ic c C<|ak "waiting"
structure cg where
 h:Addr
 dx:Addr
 le:Addr
 lf:Addr
 dk:Addr
 da:Addr
 lw:Addr
 bk:lp
 un:kO
structure qj(C:Addr)(a:cg)(O:al):Prop where
 ob:O a.h=some (.inst C a.dx)
 ns:∃n σ,O a.dx=some (.ns n σ)/\σ (ak "bank")=some (.ref a.bk.b)/\σ (ak "unions")=some (.ref a.un.u)/\σ (ak "edges")=some (.ref a.le)/\σ (ak "forest")=some (.ref a.lf)/\ σ (ak "known")=some (.ref a.dk)/\σ (ak "above")=some (.ref a.da)/\σ (ak "waiting")=some (.ref a.lw)/\ ∀x,x≠ak "bank"->x≠ak "unions"->x≠ak "edges"->x≠ak "forest"->x≠ak "known"->x≠ak "above"->x≠ak "waiting"->σ x=none
theorem ot(H:HC c CH)(U:UC c CU)(m:df c CU (ak "find")<|bj (aK 18) 3)(F:Fn c f<|bj (aK 20) 6)(X:qj CH a O)(Y:vH CU a.un O par bh mg)(hp:iL par)(hi:i<par.length)(hz:par.length<=1000)(q:Q (aY<|root par i) O):aW c (k+1+1) (.ref f) [.ref a.h,aY i] O Q:=by calc aE X.ns λn σ j=>bV j λl h1 p Z=>cY F rfl λV r=>aU<|eX ?_;tm_at"m";lk;calc⟨_,_,_,_,_,_,rfl,X.ob,l,p,rfl,H.cls,H.tj,pP Y U.cls m (by decide+kernel) (by decide+kernel) (by decide+kernel) λg G=>?_⟩;lk;calc Av U G Y hp hi hz q
theorem Eo{CH CB f:Addr}(H:HC c CH)(U:BC c CB)(j:eO c "len")(p:df c CB (ak "size")<|bj (aK 11) 1)(F:Fn c f<|bj (aK 20) 1){a:cg}{nodes:List Nd}{ws ds:List Int}{Q:PV->al->Prop}(X:qj CH a O)(Y:qM CB a.bk O nodes ws ds)(hz:nodes.length<=1000)(q:Q (aY nodes.length) O):aW c (k+1+1) (.ref f) [.ref a.h] O Q:=by calc aE X.ns λn σ l=>bV l λm h1 z Z=>cY F rfl λV r=>aU<|eX ?_;tm_at"m";lk;calc⟨_,_,_,_,_,_,rfl,X.ob,m,h1,rfl,H.cls,H.vG,uK Y U.cls p (by decide+kernel) (by decide+kernel) (by decide+kernel) (by decide+kernel) λg G=>?_⟩;lk;calc UL U j G Y hz q
theorem eF{C:Addr}{a:cg}(X:qj C a O)(m:jp c C){x:Str}{st:Stmt}(M:df c C x st)(h:x≠ak "bank"/\x≠ak "unions"/\x≠ak "edges"/\x≠ak "forest"/\x≠ak "known"/\x≠ak "above"/\x≠ak "waiting"){P:Value->List PV->Prop}(p:∀f,Fn c f st->P (.ref f) [.ref a.h]):nL c (.ref a.h) x O P:=by calc aE X.ns λn σ g=>lI g λj Z Z Z Z Z Z Z l=>?_;obtain⟨f,hm,hk,q⟩:=M;calc yp X.ob j (l x h.1 h.2.1 h.2.2.1 h.2.2.2.1 h.2.2.2.2.1 h.2.2.2.2.2.1 h.2.2.2.2.2.2) m hm<|p f q
noncomputable def vA(par:List Nat):Dt->Dt
 | .int j=> .int (root par j.toNat:Nat)
 |_=> .none
noncomputable def gs(par:List Nat)(n:Nd):Nd:=⟨n.op,n.kids.map<|root par⟩
theorem IN{CH CB CU f:Addr}(H:HC c CH)(U:BC c CB)(a0:UC c CU)(D:fJ c "tuple")(p:df c CB (ak "op")<|bj (aK 11) 7)(J:df c CB (ak "kids")<|bj (aK 11) 8)(L:df c CU (ak "find")<|bj (aK 18) 3)(N:df c CH (ak "find")<|bj (aK 20) 6)(F:Fn c f<|bj (aK 20) 2){a:cg}{nodes:List Nd}{ws ds:List Int}{par:List Nat}{bh:List Addr}{mg:List PV}{i:Nat}{Q:PV->al->Prop}(X:qj CH a O)(Y:qM CB a.bk O nodes ws ds)(Z:vH CU a.un O par bh mg)(hp:iL par)(hi:i<nodes.length)(hz:nodes.length<=1000)(r:par.length<=1000)(hk:nodes[i].kids.length<=1000)(P:∀j∈nodes[i].kids,j<par.length)(q:Q (.d (gs par nodes[i]).dt) O):aW c (k+1+1+1) (.ref f) [.ref a.h,aY i] O Q:=by
 calc aE X.ns λn σ l=>bV l λm h1 S _=>cY F rfl λV z=>aU<|eX<|iD<|cT<|ba ?_;tm_at"m";lk;calc⟨_,_,_,_,_,_,rfl,X.ob,m,h1,rfl,H.cls,H.vG,uK Y U.cls p (by decide+kernel) (by decide+kernel) (by decide+kernel) (by decide+kernel) λg G=>?_⟩;lk;calc RU U G Y hi hz ?_;lk;calc⟨lb rfl,.inl ⟨[.str nodes[i].op],rfl,?_⟩⟩;lk;calc gN (by rw[z];rfl) (λ_=>rfl)<|oq ?_;tm_at"m";lk;calc⟨_,_,_,_,_,_,rfl,X.ob,m,h1,rfl,H.cls,H.vG,uK Y U.cls J (by decide+kernel) (by decide+kernel) (by decide+kernel) (by decide+kernel) λg G=>?_⟩;lk;refine Zu U G Y hi hz hk<|⟨_,rfl,mP (nodes[i].kids.map λj=> .int (j:Nat)) (vA par) (by rfl) (by unfold small;rw[au];calc(ax 569484564891377) hi hk) (λcenv hc=>by tm_at"k") ?_ ?_⟩
 .refine λcenv I d hc T hd hm=>ai (bb.mp hm) λj l=>?_;have hj:=l.1;have C:=l.2;clear l;clear hm;subst C;tm_at"m";calc cf (by rw[T _ (by rfl)];rfl)<|eF X H.cls N (by decide+kernel) λg G=>ba ?_;tm_at"c";lk;exact ot H a0 L G X Z hp (P j hj) r ⟨rfl,rfl⟩
 lk;calc pX (by unfold small;rw[au,au];calc(ax 569484564891377) hi hk)<|qi (by unfold small;rw[au,au];simp;calc(ax 0x205f418753206f1) hi hk) ?_;rw[show Dt.tup ([Dt.str nodes[i].op]++qB (vA par) (qB (λj:Nat=>Dt.int (j:Int)) nodes[i].kids))=(gs par nodes[i]).dt by unfold gs Nd.dt;rw[bg,bg];rfl];calc q
theorem Qn(H:HC c CH)(U:UC c CU)(j:eO c "sorted")(z:df c CU (ak "find")<|bj (aK 18) 3)(C:df c CU (ak "members")<|bj (aK 18) 5)(F:Fn c f<|bj (aK 20) 13)(X:qj CH a O)(Y:gw CU a.un O par bh mem mg)(hp:iL par)(hi:i<par.length)(D:root par i<par.length)(hz:par.length<=1000)(hm:mem[root par i]? =some ms)(l:ms.length<64)(q:∀r:List Int,r.Perm (ms.map uq)->Q (.d<|.lst<|r.map .int) O):aW c (k+1+1+1) (.ref f) [.ref a.h,aY i] O Q:=by calc aE X.ns λn σ m=>bV m λp h1 I Z=>cY F rfl λV J=>aU<|eX ?_;tm_at"m";lk;calc⟨_,_,_,_,_,_,rfl,X.ob,p,I,rfl,H.cls,H.tj,pP Y.at_ U.cls C (by decide+kernel) (by decide+kernel) (by decide+kernel) λg G=>?_⟩;lk;calc RF U j z G Y hp hi D hz hm l q
structure Wd(c:Cx)(CH CB CU:Addr):Prop where
 H:HC c CH
 B:BC c CB
 U:UC c CU
 len:eO c "len"
 mE:eO c "sorted"
 sum:eO c "sum"
 max:eO c "max"
 tup:fJ c "tuple"
 set:fJ c "set"
 Lr:Glob c (ak "is_op")<|aK 6
 bsize:df c CB (ak "size")<|bj (aK 11) 1
 Jl:df c CB (ak "take")<|bj (aK 11) 2
 KA:df c CB (ak "require")<|bj (aK 11) 3
 Fw:df c CB (ak "op")<|bj (aK 11) 7
 EW:df c CB (ak "kids")<|bj (aK 11) 8
 JD:df c CB (ak "node")<|bj (aK 11) 9
 Mj:df c CU (ak "make")<|bj (aK 18) 1
 usize:df c CU (ak "size")<|bj (aK 18) 2
 kX:df c CU (ak "find")<|bj (aK 18) 3
 Nc:df c CU (ak "merge")<|bj (aK 18) 4
 Ki:df c CU (ak "members")<|bj (aK 18) 5
 zC:df c CH (ak "size")<|bj (aK 20) 1
 zq:df c CH (ak "node")<|bj (aK 20) 2
 tz:df c CH (ak "add")<|bj (aK 20) 3
 yr:df c CH (ak "put")<|bj (aK 20) 4
 FD:df c CH (ak "look_at")<|bj (aK 20) 5
 kQ:df c CH (ak "find")<|bj (aK 20) 6
 LS:df c CH (ak "merge")<|bj (aK 20) 8
 Dd:df c CH (ak "join")<|bj (aK 20) 9
 MQ:df c CH (ak "settle")<|bj (aK 20) 10
 kN:df c CH (ak "members")<|bj (aK 20) 13
 kY:df c CH (ak "nodes_of")<|bj (aK 20) 14
structure bf where
 key:Nat
 ad:Addr
 xs:List Nat
structure Hp where
 nodes:List Nd
 ws:List Int
 ds:List Int
 par:List Nat
 bh:List Addr
 mem:List<|List Nat
 mg:List PV
 jk:List PV
 lj:List PV
 known:List<|Dt×PV
 uses:List bf
 waiting:List Nat
noncomputable def bf.row(u:bf):Dt×PV:=(.int u.key,.ref u.ad)
noncomputable def cg.fix(a:cg):List Addr:=a.h::a.dx::a.le::a.lf::a.dk::a.da::a.lw::a.bk.own
noncomputable def cg.own(a:cg)(s:Hp):List Addr:=a.fix++(a.un.own s.bh++s.uses.map bf.ad)
structure bN(CH CB CU:Addr)(a:cg)(O:al)(s:Hp):Prop where
 at_:qj CH a O
 bk:jO CB a.bk O s.nodes s.ws s.ds
 un:gw CU a.un O s.par s.bh s.mem s.mg
 le:O a.le=some (.lst s.jk)
 lf:O a.lf=some (.lst s.lj)
 dk:O a.dk=some (.aM s.known)
 da:O a.da=some (.aM<|s.uses.map bf.row)
 lw:O a.lw=some (.lst<|s.waiting.map aY)
 us:∀u∈s.uses,O u.ad=some (.lst<|u.xs.map aY)
 nd:(a.own s).Nodup
noncomputable def Fr(O ah:al)(o g:List Addr):Prop:=(∀b,b∉o->O b≠none->ah b=O b)/\∀b∈g,b∈o\/O b=none
theorem Fr.refl:Fr O O o o:=⟨λZ Z Z=>rfl,λZ h=> .inl h⟩
theorem Fr.trans(h:Fr O ah o l)(h':Fr ah j l DJ):Fr O j o DJ:=by
 refine⟨λb hb g=>?_,λb hb=>?_⟩
 .have e:=h.1 b hb g;rw[<-e];calc h'.1 b (λhm=>?_) (by rw[e];calc g);rcases h.2 b hm with h1|h1
  .exact hb h1
  .exact g h1
 .rcases h'.2 b hb with h1|h1
  .exact h.2 b h1
  .by_cases hm:b∈o
   .exact .inl hm
   .by_cases g:O b=none
    .exact .inr g
    .rw[h.1 b hm g] at h1;calc absurd h1 g
noncomputable def pD(x:Str)(n:Nat):Prop:=((x=ak "a"\/x=ak "b")/\n=0)\/(x=ak "f"/\n=1)\/(x=ak "p"/\n=2)
theorem pD.ok(h:pD x n):qb x/\n<=2:=by unfold qb;rcases h with⟨h|h,rfl⟩|⟨h,rfl⟩|⟨h,rfl⟩<;>simp[h]
noncomputable def ends(par:List Nat):List Bool:=par.mapIdx λi p=>decide<|p≠i
structure Good(e:Nat)(s:Hp):Prop where
 pl:s.par.length=s.nodes.length
 nz:s.nodes.length<=7
 ok:∀n∈s.nodes,pD n.op n.kids.length
 lt:∀(i:Nat) n,s.nodes[i]? =some n->∀j∈n.kids,j<i
 cH:iL s.par
 jK:∀m∈s.mem,m.Nodup/\∀x∈m,x<s.nodes.length
 lL:∀(r:Nat) m,s.mem[r]? =some m->s.par.getD r 0=r->∀i,i<s.nodes.length->(i∈m↔root s.par i=r)
 ou:(ends s.par).count true=s.mg.length
 el:s.jk.length<=e+s.mg.length
 fl:s.lj.length<=s.mg.length
 kv:∀p∈s.known,∃j,p.2=aY j/\j<s.nodes.length
 kz:s.known.length+s.waiting.length<=s.nodes.length+2*(s.nodes.length*2^s.mg.length)
 uk:(s.uses.map bf.key).Nodup
 ur:∀r,r<s.nodes.length->s.par.getD r 0=r->∃u∈s.uses,u.key=r
 uz:s.uses.length<=s.nodes.length
 ul:∀u∈s.uses,u.key<s.nodes.length
 uL:∀u∈s.uses,u.xs.length<=2*(s.nodes.length*2^s.mg.length)/\∀x∈u.xs,x<s.nodes.length
 wL:∀x∈s.waiting,x<s.nodes.length
theorem VB(hf:iL par):∀(n a:Nat),a<par.length->xL par n a<par.length:=by
 intro g;induction g with
 |zero=>
  calc λa h=>h
 |succ n j=>
  intro a h;calc tL (P:=(·<par.length)) (λZ=>h) λZ=>j _<|tf h<|hf a h
theorem lN(hf:iL par)(h:a<par.length):root par a<par.length:=VB hf _ _ h
theorem qZ(hf:iL par):∀(a:Nat),a<par.length->par.getD (root par a) 0=root par a:=by
 intro a;induction a using Cj with
 |_ a g=>
  intro h;rw[nN hf h];split
  .assumption
  .have:=hf a h;calc g (par.getD a 0) ((aq 494414271025) (by assumption) this)<|tf h this
theorem Ia:∀{l:List Nat} {n:Nat},l.Nodup->(∀x∈l,x<n)->l.length<=n:=by intro l n h h';have:=(GX (n:=n)).sublist<|List.nil_sublist _;have:=h.length_le_of_subset λx g=>eM.mpr<|h' x g;rwa [lS] at this
theorem Good.zS(G:Good e s):s.mg.length<=7:=by
 have:(ends s.par).length=s.par.length:=by unfold ends;simp
 have:=G.pl;have:=G.nz;calc(cK 0x209f12536a5600fa209f00f613) (List.count_le_length (a:=true) (l:=ends s.par)) (by assumption) (by assumption) (by assumption) G.ou
theorem Good.gu(G:Good e s):s.nodes.length*2^s.mg.length<=896:=by calc aL (Nat.mul_le_mul G.nz<|BQ ((dL 460030)) G.zS)<|by decide
theorem Good.mz(G:Good e s)(h:m∈s.mem):m.length<=7:=aL (Ia (G.jK m h).1 (G.jK m h).2) G.nz
theorem Good.kids(G:Good e s)(h:i<s.nodes.length):s.nodes[i].kids.length<=2:=(G.ok _<|gJ h).ok.2
theorem Good.below(G:Good e s)(h:i<s.nodes.length):∀j∈s.nodes[i].kids,j<s.par.length:=λj hj=>by have:=G.lt i _ (cR h) j hj;rw[G.pl];calc(ax 30894413649) h this
noncomputable def Nd.row(n:Nd):List Dt:= .str n.op::n.kids.map λi=> .int (i:Nat)
theorem Sn:∀{x y:List Nat},(x.map λi=>Dt.int (i:Nat))=(y.map λi=>Dt.int (i:Nat))->x=y:=by
 intro g;induction g with
 |nil=>
  intro j;cases j with
  |nil=>
   calc λZ=>rfl
  |cons _ _=>
   intro h;simp at h
 |cons a x m=>
  intro l;cases l with
  |nil=>
   intro h;simp at h
  |cons b y=>
   intro h;rw[dK,dK,tZ,Dt.int.injEq] at h;rw[m h.2,show a=b from(aq 0x63116f01f301f1) h.1]
theorem Nd.inj{m n:Nd}(h:m.dt=n.dt):m=n:=by obtain⟨o,ks⟩:=m;obtain⟨j,g⟩:=n;unfold Nd.dt at h;rw[Dt.tup.injEq,tZ,Dt.str.injEq] at h;obtain rfl:o=j:=h.1;obtain rfl:ks=g:=Sn h.2;rfl
theorem Tl:∀{ks:List<|List Dt} {P:Nd->Prop},(∀l∈ks,∃n,P n/\l=Nd.row n)->∃j:List Nd,ks=j.map Nd.row:=by
 intro m;induction m with
 |nil=>
  intro _ _;calc⟨[],rfl⟩
 |cons l ks q=>
  intro P h;calc ai (h l dC) λn g=>aw g λZ p=>?_;clear g;subst p;calc ai (q (P:=P) λr h'=>h r<|dw _ h') λj g=>?_;clear h;subst g;calc⟨n::j,rfl⟩
noncomputable def fx(s:Hp)(r:Nat)(n:Nd):Prop:=∃i m,s.nodes[i]? =some m/\root s.par i=r/\n=gs s.par m
noncomputable def zQ(s:Hp):Dt->Nd
 | .int j=>gs s.par<|s.nodes.getD j.toNat ⟨ak "",[]⟩
 |_=>⟨ak "",[]⟩
theorem Bu(h:n<s.nodes.length):zQ s (.int (n:Nat))=gs s.par s.nodes[n]:=by show gs s.par (s.nodes.getD ((n:Int)).toNat _)=_;rw[hH,wq,cR h];rfl
theorem LM{CH CB CU f:Addr}(W:Wd c CH CB CU)(F:Fn c f<|bj (aK 20) 14){a:cg}{s:Hp}{e i:Nat}{Q:PV->al->Prop}(X:bN CH CB CU a O s)(G:Good e s)(hi:i<s.nodes.length)(q:∀Z:List Nd,(∀n,n∈Z↔fx s (root s.par i) n)->Q (.d<|.lst<|Z.map Nd.dt) O):aW c (k+1+1+1+1) (.ref f) [.ref a.h,aY i] O Q:=by
 have L:i<s.par.length:=by rw[G.pl];exact hi
 have hr:=lN G.cH L;have C:root s.par i<s.mem.length:=by rw[X.un.ml];exact hr
 have a0:s.par.length<=1000:=by have:=G.nz;rw[G.pl];exact qd this
 have hM:=gJ C;have hz:=G.mz hM;calc cY F rfl λV a5=>aU<|eX<|Ls (by rfl) (by rfl) (by rfl) (by rfl)<|gO (by tm_at"k") (by decide) W.mE.1 W.mE.2 ⟨rfl,gO (by tm_at"k") (by decide) W.set.1 W.set.2 ⟨rfl,ba<|gN (by rw[a5];rfl) (λ_=>rfl)<|eJ ?_⟩⟩;tm_at"m";lk;calc eF X.at_ W.H.cls W.kN (by decide+kernel) λg hg=>?_;lk;calc Qn W.H W.U W.mE W.kX W.Ki hg X.at_ X.un G.cH L hr a0 (cR C) ((ax 0x721f1753209f1) C hz) λjs hj=>?_;have a1:js.length<=7:=by rw[hj.length_eq,au];exact hz
 have N:∀j:Int,j∈js↔∃n:Nat,j=n/\n<s.nodes.length/\root s.par n=root s.par i:=λj=>by
  rw[hj.mem_iff,bb];constructor
  .intro p;calc ai p λn r=>?_;have I:=r.1;have S:=r.2;clear r p;subst S;have J:=(G.jK _ hM).2 n I;exact⟨n,aR rfl J<|(G.lL _ _ (cR C) (qZ G.cH i L) n J).mp I⟩
  .intro p;calc ai p λn r=>aN r λS I a6=>?_;clear r p;subst S;exact⟨n,(G.lL _ _ (cR C) (qZ G.cH i L) n I).mpr a6,rfl⟩
 refine⟨_,rfl,mP (js.map .int) (λd=>(zQ s d).dt) (by rfl) (by unfold small;rw[au];calc(ax 569484564892145) C a1) (λcenv hc=>by tm_at"k") ?_ ?_⟩
 .refine λcenv a7 d hc T hd hm=>ai (bb.mp hm) λj p=>?_;have D:=p.1;have r:=p.2;clear p;subst r;calc ai ((N j).mp D) λn p=>aN p λr I _=>?_;clear p;clear hm D;subst r;tm_at"m";calc cf (by rw[T _ (by rfl)];rfl)<|eF X.at_ W.H.cls W.zq (by decide+kernel) λg hg=>ba ?_;tm_at"c";lk;have:=G.nz;calc IN W.H W.B W.U W.tup W.Fw W.EW W.kX W.kQ hg X.at_ X.bk.at_ X.un.at_ G.cH I ((ax 570584076519921) C this) a0 (by have:=G.kids I;calc(cK 0x206f1753700fa204f1) I C this) (G.below I) ⟨?_,rfl⟩;rw[Bu I]
 lk;refine Dg.rows (js.map λj=>(zQ s<|.int j).row) ?_ (by rw[au];calc(ax 598071867214321) C a1) ?_ λks hk=>?_
 .rw[bg,bg];rfl
 .refine λl hl=>ai (bb.mp hl) λj p=>aw p λD r=>?_;clear p;subst r;calc ai ((N j).mp D) λn p=>aN p λr I _=>?_;clear p;clear hl D;subst r;calc EL ?_;rw[Bu I];exact(G.ok _<|gJ I).ok.1.facts.1
 .have a2:∀n,n.row∈ks↔fx s (root s.par i) n:=λn=>by
   rw[hk,bb];constructor
   .intro p;calc ai p λj r=>aw r λD a3=>ai ((N j).mp D) λm p=>aN p λr hm Y=>?_;clear p;subst r;calc⟨m,_,cR hm,Y,?_⟩;rw[<-(Nd.inj (m:=zQ s<|.int (m:Nat)) (n:=n)<|congrArg Dt.tup a3),Bu hm]
   .rintro ⟨m,nd,hm,Y,rfl⟩;have J:=(dJ.mp hm).1;calc⟨(m:Nat),(N _).mpr ⟨m,aR rfl J Y⟩,?_⟩;rw[Bu J,(dJ.mp hm).2]
  obtain⟨Z,rfl⟩:=Tl (ks:=ks) (P:=λ_=>True) λl hl=>by calc ai (bb.mp<|(hk l).mp hl) λj p=>aw p λD r=>?_;clear p;clear hl;subst r;exact⟨_,trivial,rfl⟩
  have:=q Z λn=>by rw[<-a2,bb];exact⟨λh=>⟨n,h,rfl⟩,λz=>ai z λm y=>Nd.inj (congrArg Dt.tup y.2)▸y.1⟩
  rwa [show(Z.map Nd.row).map Dt.tup=Z.map Nd.dt by rw[bg];rfl]
theorem Bx{par:List Nat}{g p i:Nat}:(par.set g p).getD i 0=if i=g/\g<par.length then p else par.getD i 0:=by
 rw[wq,wq,O1];by_cases h:g=i
 .subst h;by_cases j:g<par.length
  .simp[j]
  .simp[j,lX.mp j]
 .rw[if_neg h,if_neg λe=>h e.1.symm]
theorem Iu{par:List Nat}(hf:iL par){g p:Nat}(h:p<g):iL (par.set g p):=λi hi=>by
 rw[OZ] at hi;rw[Bx];split
 .rename_i e;exact(aV 0x2317510af7a5653) h e
 .exact hf i hi
theorem Zf{par:List Nat}(hf:iL par){p g:Nat}(hp:par.getD p 0=p)(hg:par.getD g 0=g)(h:p<g)(m:g<par.length):∀(i:Nat),i<par.length->root (par.set g p) i=if root par i=g then p else root par i:=by
 intro i;have j:=Iu hf h;induction i using Cj with
 |_ i q=>
  intro hi;have l:i<(par.set g p).length:=by rw[OZ];exact hi
  have hd:=Bx (par:=par) (g:=g) (p:=p) (i:=i);rw[nN j l,nN hf hi];by_cases e:i=g
  .clear j l;subst e;rw[if_pos ⟨rfl,m⟩] at hd;have e1:=q p h (by calc(cK 0x73173565a7516100f) hi hg h hd);rw[nN hf (by calc(cK 0x73173565a7516100f) hi hg h hd),if_pos hp,if_neg (by calc(aV 0xd63163573161a) hg h hd)] at e1;rw[hd,if_neg<|by calc(cK 0xd63163573161a6100f) hg h hd e1,if_pos hg,if_pos rfl,e1]
  .rw[if_neg λx=>e x.1] at hd;rw[hd];by_cases e2:par.getD i 0=i
   .rw[if_pos e2,if_pos e2,if_neg e]
   .rw[if_neg e2,if_neg e2];have:=hf i hi;calc q (par.getD i 0) (by calc(aq 494414271025) e2 this)<|by calc tf hi this
theorem VY(hg:par.getD g 0=g)(j:p<g)(h:g<par.length):(ends<|par.set g p).count true=(ends par).count true+1:=by
 unfold ends;have l:g<(par.mapIdx λi p=>decide<|p≠i).length:=by simpa using h
 rw[List.mapIdx_set,List.count_set l]
 have hd:(par.mapIdx λi p=>decide<|p≠i)[g]=false:=by
  rw[List.getElem_mapIdx];have:par[g]=g:=by rw[wq,cR h] at hg;exact hg
  simp[this]
 rw[hd];have:decide (p≠g)=true:=decide_eq_true (by calc(aq 224597809) j);simp[this]
noncomputable def bf.turn(p:Nat)(z:Addr)(ys:List Nat)(u:bf):bf:=if u.key=p then⟨p,z,ys⟩ else u
noncomputable def mK(us:List bf)(p g:Nat)(z:Addr)(ys:List Nat):List bf:=(us.filter λu=>decide<|u.key≠g).map<|bf.turn p z ys
theorem IT{u:bf}:(u.turn p z ys).key=u.key:=by
 unfold bf.turn;split
 .rename_i h;exact h.symm
 .rfl
theorem VP{us:List bf}:(mK us p g z ys).map bf.key=(us.filter λu=>decide<|u.key≠g).map bf.key:=by unfold mK;rw[bg];calc gZ λu Z=>IT
theorem yE(h:u∈mK us p g z ys):u=⟨p,z,ys⟩\/(u∈us/\u.key≠g/\u.key≠p):=by
 calc ai (bb.mp h) λv j=>?_;have l:=j.1;have m:=j.2;clear j;clear h;subst m;rw[gK] at l;unfold bf.turn;split
 .exact .inl rfl
 .rename_i hp;calc .inr<|aR l.1 (of_decide_eq_true l.2) hp
noncomputable def joined(s:Hp)(p g:Nat)(v ed fo:PV)(z:Addr)(j h:List Nat):Hp:={s with par:=s.par.set g p,mem:=s.mem.set p<|s.mem.getD p []++s.mem.getD g [],mg:=s.mg++[v],jk:=s.jk++[ed],lj:=s.lj++[fo],uses:=mK s.uses p g z<|j++h,waiting:=s.waiting++h}
theorem Wg{x p g:Nat}:(x=p\/x=g)↔(if x=g then p else x)=p:=by
 by_cases h:x=g
 .rw[if_pos h];exact⟨λZ=>rfl,λZ=> .inr h⟩
 .rw[if_neg h];calc⟨λq=>q.resolve_right h,.inl⟩
theorem Sy{x p g r:Nat}(a:¬r=g)(b:¬p=r):x=r↔(if x=g then p else x)=r:=by
 by_cases h:x=g
 .rw[if_pos h];exact⟨λq=>absurd (q.symm.trans h) a,λq=>absurd q b⟩
 .rw[if_neg h]
theorem Good.join{s:Hp}(G:Good e s)(P:s.mem.length=s.par.length){p g:Nat}(hp:s.par.getD p 0=p)(hg:s.par.getD g 0=g)(D:p<g)(S:g<s.nodes.length){up J:bf}(Y:up∈s.uses)(Z:J∈s.uses):Good e (joined s p g v ed fo z up.xs J.xs):=by
 have l:g<s.par.length:=by rw[G.pl];exact S
 have T:p<s.par.length:=by exact uZ D l
 have H:p<s.mem.length:=by exact Q6 P T
 have N:g<s.mem.length:=by exact Q6 P l
 have e1:s.mem.getD p []=s.mem[p]:=by simp[H]
 have e2:s.mem.getD g []=s.mem[g]:=by simp[N]
 have m1:=G.jK _<|gJ H;have m2:=G.jK _<|gJ N;have r1:=G.lL p _ (cR H) hp;have r2:=G.lL g _ (cR N) hg;have U:2^(s.mg++[v]).length=2^s.mg.length*2:=by rw[bA,gG,Pu]
 have hk:∀n:Nat,n*2^(s.mg++[v]).length=n*2^s.mg.length+n*2^s.mg.length:=λn=>by rw[U,<-Pl,PL]
 have b1:=G.uL up Y;have b2:=G.uL J Z;refine{pl:=by show(s.par.set g p).length=_;rw[OZ];calc G.pl,nz:=G.nz,ok:=G.ok,lt:=G.lt,cH:=Iu G.cH D,jK:= ?_,lL:= ?_,ou:= ?_,el:= ?_,fl:= ?_,kv:=G.kv,kz:= ?_,uk:= ?_,ur:= ?_,uz:= ?_,ul:= ?_,uL:= ?_,wL:=(λx L=>(ca.mp L).elim (G.wL x)<|b2.2 x)}
 .intro m hm;rcases List.mem_or_eq_of_mem_set hm with h|rfl
  .exact G.jK m h
  .rw[e1,e2];calc⟨rY.mpr<|aR m1.1 m2.1 λx L y hy=>?_,λx L=>(ca.mp L).elim (m1.2 x)<|m2.2 x⟩;rintro rfl;exact gm _<|(ax 0x7e8731615635) D ((r1 x<|m1.2 x L).mp L)<|(r2 x<|m2.2 x hy).mp hy
 .intro r m hm hr i hi
  have a0:i<s.par.length:=by rw[G.pl];exact hi
  show i∈m↔root (s.par.set g p) i=r;rw[(Zf G.cH hp hg D l) i a0];have C:(s.par.set g p).getD r 0=r:=hr;rw[Bx] at C;have hm':(s.mem.set p<|s.mem.getD p []++s.mem.getD g [])[r]? =some m:=hm;rw[O1] at hm';by_cases j:r=g
  .rw[if_pos ⟨j,l⟩] at C;exact absurd (C.trans j)<|hZ D
  .rw[if_neg λx=>j x.1] at C;by_cases I:p=r
   .rw[if_pos I,if_pos H] at hm';obtain rfl:=gn hm';clear C hm j;subst I;rw[e1,e2,ca,r1 i hi,r2 i hi];exact Wg
   .rw[if_neg I] at hm';rw[G.lL r m hm' C i hi];exact Sy j I
 .show(ends<|s.par.set g p).count true=_;rw[VY hg D l,G.ou];show _=(s.mg++[v]).length;rw[bA,gG]
 .show(s.jk++[ed]).length<=e+(s.mg++[v]).length;rw[bA,bA,gG,gG];exact(ax 39599392048433) G.el
 .show(s.lj++[fo]).length<=(s.mg++[v]).length;rw[bA,bA,gG,gG];exact yx G.fl
 .show s.known.length+(s.waiting++J.xs).length<=s.nodes.length+2*(s.nodes.length*2^(s.mg++[v]).length);rw[hk,bA];exact(cK 0x2414f400f00fa44531214f00f52414f00fa431) b2.1 G.kz
 .show((mK s.uses p g z<|up.xs++J.xs).map bf.key).Nodup;rw[VP];exact G.uk.sublist<|List.Sublist.map _ yM
 .intro r hr C;have q:(s.par.set g p).getD r 0=r:=C;rw[Bx] at q;by_cases j:r=g
  .rw[if_pos ⟨j,l⟩] at q;exact absurd (q.trans j)<|hZ D
  .rw[if_neg λx=>j x.1] at q;calc ai (G.ur r hr q) λu X=>?_;have hk:=X.2;calc⟨u.turn p z<|up.xs++J.xs,bb.mpr ⟨u,gK.mpr ⟨X.1,decide_eq_true<|by calc(cK 0xd6316a56a00fd63a6a1) C q j hk⟩,rfl⟩,?_⟩;rw[IT];exact hk
 .show(mK s.uses p g z<|up.xs++J.xs).length<=_;unfold mK;rw[au];exact aL (ww _ _) G.uz
 .intro u hu;rcases yE hu with rfl|⟨h,_,_⟩
  .show p<s.nodes.length;exact uZ D S
  .exact G.ul u h
 .intro u hu;show u.xs.length<=2*(s.nodes.length*2^(s.mg++[v]).length)/\_;rw[hk];rcases yE hu with rfl|⟨h,_,_⟩
  .refine⟨?_,λx L=>(ca.mp L).elim (b1.2 x)<|b2.2 x⟩;show(up.xs++J.xs).length<=_;rw[bA];exact(ax 0x214f455431214f51214f53) b1.1 b2.1
  .have:=G.uL u h;calc⟨by calc(aq 9375824237121329) this.1,this.2⟩
theorem lc:(Dt.int (a:Nat)=Dt.int (b:Nat))↔a=b:=by rw[Dt.int.injEq];calc Pn
theorem Zm(l:p≠g)(hp:∃u∈us,u.key=p):dput (lQ (us.map bf.row)<|.int (g:Nat)) (.int (p:Nat)) (.ref z)=(mK us p g z ys).map bf.row:=by
 have h1:lQ (us.map bf.row) (.int (g:Nat))=(us.filter λu=>decide<|u.key≠g).map bf.row:=by
  unfold lQ;rw[List.filter_map];congr 1;apply List.filter_congr;intro u _;show(!decide (Dt.int (u.key:Nat)=Dt.int (g:Nat)))=decide (u.key≠g);by_cases h:u.key=g
  .rw[decide_eq_true (by rw[h]),decide_eq_false (λx=>x h)];rfl
  .rw[decide_eq_false (by rw[lc];calc h),decide_eq_true h];rfl
 rw[h1];unfold dput mK;calc ai hp λu j=>?_;have hk:=j.2;rw[if_pos]
 .rw[bg,bg];apply gZ;intro v _;show(if(Dt.int (v.key:Nat))=Dt.int (p:Nat) then(Dt.int (v.key:Nat),PV.ref z) else v.row)=(v.turn p z ys).row;unfold bf.turn;by_cases h:v.key=p
  .rw[if_pos h,if_pos<|by rw[h],h];rfl
  .rw[if_neg h,if_neg (by rw[lc];calc h)]
 .rw[bg];calc bb.mpr ⟨u,gK.mpr ⟨j.1,decide_eq_true<|by calc(ax 0xd631d635651) l hk⟩,?_⟩;show Dt.int (u.key:Nat)=_;rw[hk]
theorem Kv{us:List bf}(l:(us.map bf.key).Nodup){u:bf}(m:u∈us):dH (us.map bf.row) (.int (u.key:Nat))=some (.ref u.ad):=by
 calc ai (gk.mp m) λj hj=>wg (j:=j) ?_ (by rw[dm,hj];rfl);rw[bg];have:(us.map<|(λx:Dt×PV=>x.1)∘bf.row)=(us.map bf.key).map λk=>Dt.int (k:Nat):=by rw[bg];rfl
 rw[this];calc l.map _ λa b g h=>g<|lc.mp h
end
section
variable{c:Cx}{k:Nat}{V:Env}{O ah:al}{ρ:az}
theorem qj.same{C:Addr}{a:cg}(X:qj C a O)(h1:ah a.h=O a.h)(l:ah a.dx=O a.dx):qj C a ah:=by calc aE X.ns λn σ g=>aw g λj m=>⟨h1.trans X.ob,n,σ,l.trans j,m⟩
theorem jO.same{C:Addr}{a:lp}{nodes:List Nd}{ws ds:List Int}(X:jO C a O nodes ws ds)(h:∀b∈a.own,ah b=O b):jO C a ah nodes ws ds:=by calc aE X.at_.ns λn σ g=>aw g λj l=>?_;unfold lp.own at h;calc{at_:={ob:=(h _<|.head _).trans X.at_.ob,ns:=bv n σ ⟨(h _<|.tail _<|.head _).trans j,l⟩,ln:=(h _<|.tail _<|.tail _<|.head _).trans X.at_.ln,dn:=(h _<|.tail _<|.tail _<|.tail _<|.head _).trans X.at_.dn,lw:=(h _<|.tail _<|.tail _<|.tail _<|.tail _<|.head _).trans X.at_.lw,ld:=(h _<|.tail _<|.tail _<|.tail _<|.tail _<|.tail _<|.head _).trans X.at_.ld},wl:=X.wl,dl:=X.dl,uniq:=X.uniq,nd:=X.nd}
noncomputable def cg.bU(a:cg):List Addr:=[a.h,a.dx,a.le,a.lf,a.dk,a.da,a.lw]
structure Sep(a:cg)(s:Hp):Prop where
 bU:a.bU.Nodup
 s1:∀x∈a.bU,x∉a.bk.own/\x∉a.un.own s.bh/\x∉s.uses.map bf.ad
 s2:∀x∈a.bk.own,x∉a.un.own s.bh/\x∉s.uses.map bf.ad
 s3:∀x∈a.un.own s.bh,x∉s.uses.map bf.ad
 bk:a.bk.own.Nodup
 un:(a.un.own s.bh).Nodup
 us:(s.uses.map bf.ad).Nodup
theorem Fq{a:cg}{s:Hp}:(a.own s).Nodup↔Sep a s:=by
 have e:a.own s=a.bU++(a.bk.own++(a.un.own s.bh++s.uses.map bf.ad)):=rfl;rw[e,rY,rY,rY];constructor
 .intro j;calc aN j λh1 l m=>?_;calc aN l λr p q=>?_;exact aN p λz C D=>⟨h1,λx g=>aR (λhm=>m x g x (dh _<|by assumption) rfl) (λhm=>m x g x (by simp[hm]) rfl) λhm=>m x g x (cn _<|cn _ hm) rfl,λx g=>⟨λhm=>q x g x (dh _<|by assumption) rfl,λhm=>q x g x (cn _ hm) rfl⟩,λx g hm=>D x g x hm rfl,r,z,C⟩
 .refine λS=>⟨S.bU,⟨S.bk,aR S.un S.us λx g y hy e=>S.s3 x g<|e▸hy,λx g y hy e=>?_⟩,λx g y hy e=>?_⟩
  .subst e;rcases ca.mp hy with h|h
   .exact(S.s2 x g).1 h
   .exact(S.s2 x g).2 h
  .subst e;rcases ca.mp hy with h|h
   .exact(S.s1 x g).1 h
   .rcases ca.mp h with h|h
    .exact(S.s1 x g).2.1 h
    .exact(S.s1 x g).2.2 h
variable{CH CB CU:Addr}{a:cg}{s:Hp}
theorem bN.sep(X:bN CH CB CU a O s):Sep a s:=Fq.mp X.nd
theorem bN.re(X:bN CH CB CU a O s){ed fo:List PV}{kn:List<|Dt×PV}{H:List Nat}(m:ah a.le=some (.lst ed))(p:ah a.lf=some (.lst fo))(q:ah a.dk=some (.aM kn))(r:ah a.lw=some (.lst<|H.map aY))(l:∀b,b≠a.le->b≠a.lf->b≠a.dk->b≠a.lw->ah b=O b):bN CH CB CU a ah {s with jk:=ed,lj:=fo,known:=kn,waiting:=H}:=by have S:=X.sep;have g:=S.bU;have t:=λ{x:Addr} (i:Nat) (h:a.bU[i]? = .some x)=>S.s1 x<|fZ h;have t2:=t 2 rfl;have z:=t 3 rfl;have C:=t 4 rfl;have D:=t 6 rfl;have j:∀{x:Addr},(a.le≠x/\a.lf≠x/\a.dk≠x/\a.lw≠x)->ah x=O x:=λ{x} h=>l x h.1.symm h.2.1.symm h.2.2.1.symm h.2.2.2.symm;calc{at_:=X.at_.same (l _ (nq g 0 2) (nq g 0 3) (nq g 0 4)<|nq g 0 6)<|l _ (nq g 1 2) (nq g 1 3) (nq g 1 4)<|nq g 1 6,bk:=X.bk.same λb hb=>j<|cx (λe=>t2.1<|e▸hb) (λe=>z.1<|e▸hb) (λe=>C.1<|e▸hb) λe=>D.1<|e▸hb,un:=X.un.same λb hb=>j<|cx (λe=>t2.2.1<|e▸hb) (λe=>z.2.1<|e▸hb) (λe=>C.2.1<|e▸hb) λe=>D.2.1<|e▸hb,le:=m,lf:=p,dk:=q,da:=(l _ (nq g 5 2) (nq g 5 3) (nq g 5 4)<|nq g 5 6).trans X.da,lw:=r,us:=λu I=>?_,nd:=X.nd};have hm:=cL (f:=bf.ad) I;calc(j<|cx (λe=>t2.2.2<|e▸hm) (λe=>z.2.2<|e▸hm) (λe=>C.2.2<|e▸hm) λe=>D.2.2<|e▸hm).trans<|X.us u I
theorem C6(X:bN CH CB CU a O s){i j:Nat}{x y:Addr}(hi:a.bU[i]? =some x)(hj:a.bU[j]? =some y)(h:i≠j):x≠y:=λe=>by subst e;calc ai (dJ.mp hi) λh1 e1=>?_;calc ai (dJ.mp hj) λg e2=>?_;calc h<|(tW X.sep.bU).mp<|e1.trans e2.symm
theorem bN.YQ(X:bN CH CB CU a O s)(l:List PV):bN CH CB CU a (upd O a.le<|.lst l) {s with jk:=l}:=X.re bo ((aC<|nq X.sep.bU 3 2).trans X.lf) ((aC<|nq X.sep.bU 4 2).trans X.dk) ((aC<|nq X.sep.bU 6 2).trans X.lw) λb h Z Z Z=>aC h
theorem bN.RH(X:bN CH CB CU a O s)(l:List PV):bN CH CB CU a (upd O a.lf<|.lst l) {s with lj:=l}:=X.re ((aC<|nq X.sep.bU 2 3).trans X.le) bo ((aC<|nq X.sep.bU 4 3).trans X.dk) ((aC<|nq X.sep.bU 6 3).trans X.lw) λb Z h Z Z=>aC h
theorem bN.UH(X:bN CH CB CU a O s)(l:List<|Dt×PV):bN CH CB CU a (upd O a.dk<|.aM l) {s with known:=l}:=X.re ((aC<|nq X.sep.bU 2 4).trans X.le) ((aC<|nq X.sep.bU 3 4).trans X.lf) bo ((aC<|nq X.sep.bU 6 4).trans X.lw) λb Z Z h Z=>aC h
theorem bN.Jj(X:bN CH CB CU a O s)(l:List Nat):bN CH CB CU a (upd O a.lw<|.lst<|l.map aY) {s with waiting:=l}:=X.re ((aC<|nq X.sep.bU 2 6).trans X.le) ((aC<|nq X.sep.bU 3 6).trans X.lf) ((aC<|nq X.sep.bU 4 6).trans X.dk) bo λb Z Z Z h=>aC h
theorem Er{b:Addr}(h:O b=none)(k:∃m,O b=some m):False:=ai k λZ e=>ns<|h.symm.trans e
theorem jO.some{C:Addr}{a:lp}{nodes:List Nd}{ws ds:List Int}(X:jO C a O nodes ws ds){b:Addr}(h:b∈a.own):∃m,O b= .some m:=aE X.at_.ns λZ Z q=>(show∀b∈a.own,∃m,O b= .some m from fa ⟨_,X.at_.ob⟩<|fa ⟨_,q.1⟩<|fa ⟨_,X.at_.ln⟩<|fa ⟨_,X.at_.dn⟩<|fa ⟨_,X.at_.lw⟩<|fa ⟨_,X.at_.ld⟩ dF) b h
theorem bN.IR(X:bN CH CB CU a O s){b:Addr}(h:b∈a.bU):∃m,O b= .some m:=aE X.at_.ns λZ Z q=>(show∀b∈a.bU,∃m,O b= .some m from fa ⟨_,X.at_.ob⟩<|fa ⟨_,q.1⟩<|fa ⟨_,X.le⟩<|fa ⟨_,X.lf⟩<|fa ⟨_,X.dk⟩<|fa ⟨_,X.da⟩<|fa ⟨_,X.lw⟩ dF) b h
theorem bN.DU(X:bN CH CB CU a O s){us':List bf}(r:ah a.da=some (.aM<|us'.map bf.row))(z:∀u∈us',ah u.ad=some (.lst<|u.xs.map aY))(L:∀b∈a.fix++a.un.own s.bh,b≠a.da->ah b=O b)(C:(us'.map bf.ad).Nodup)(q:∀u∈us',u.ad∈s.uses.map bf.ad\/O u.ad=none):bN CH CB CU a ah {s with uses:=us'}:=by
 have S:=X.sep;unfold cg.fix at L;have g:∀b,b∈a.bU\/b∈a.bk.own\/b∈a.un.own s.bh->b≠a.da->ah b=O b:=λb h D=>L b (by have e:a.h::a.dx::a.le::a.lf::a.dk::a.da::a.lw::a.bk.own++a.un.own s.bh=a.bU++(a.bk.own++a.un.own s.bh):=rfl;rw[e,ca,ca];calc h) D;have H:a.da∈a.bU:=by unfold cg.bU;simp
 have m:∀{x:Addr} (i:Nat),a.bU[i]? =some x->i≠5->ah x=O x:=λ{x} i hi N=>g x (.inl<|fZ hi)<|C6 X hi (j:=5) rfl N
 have old:∀u∈us',(∃b,b∈a.bU\/b∈a.bk.own\/b∈a.un.own s.bh)->u.ad∉a.bU/\u.ad∉a.bk.own/\u.ad∉a.un.own s.bh:=λu I Z=>by
  rcases q u I with h|h
  .exact aR (λhm=>(S.s1 _ hm).2.2 h) (λhm=>(S.s2 _ hm).2 h) λhm=>S.s3 _ hm h
  .exact aR (λhm=>Er h<|X.IR hm) (λhm=>Er h<|X.bk.some hm) λhm=>X.un.fresh h hm
 have l:∀x∈us'.map bf.ad,x∉a.bU/\x∉a.bk.own/\x∉a.un.own s.bh:=λx g=>by calc ai (bb.mp g) λu p=>?_;have I:=p.1;have J:=p.2;clear p;clear g;subst J;exact old u I ⟨_,.inl H⟩
 calc{at_:=X.at_.same (m 0 rfl<|by decide)<|m 1 rfl<|by decide,bk:=X.bk.same λb hb=>g b (.inr<|.inl hb) λe=>(S.s1 _ H).1<|e▸hb,un:=X.un.same λb hb=>g b (.inr<|.inr hb) λe=>(S.s1 _ H).2.1<|e▸hb,le:=(m 2 rfl<|by decide).trans X.le,lf:=(m 3 rfl<|by decide).trans X.lf,dk:=(m 4 rfl<|by decide).trans X.dk,da:=r,lw:=(m 6 rfl<|by decide).trans X.lw,us:=z,nd:=Fq.mpr ?_};calc⟨S.bU,λx g=>aR ((S.s1 x g).1) ((S.s1 x g).2.1) λhm=>(l x hm).1 g,λx g=>⟨(S.s2 x g).1,λhm=>(l x hm).2.1 g⟩,λx g hm=>(l x hm).2.2 g,S.bk,S.un,C⟩
theorem bN.some(X:bN CH CB CU a O s){b:Addr}(h:b∈a.own s):∃m,O b=some m:=by
 have e:a.own s=a.bU++(a.bk.own++(a.un.own s.bh++s.uses.map bf.ad)):=rfl;rw[e,ca,ca,ca] at h;rcases h with hm|hm|hm|hm
 .exact X.IR hm
 .exact X.bk.some hm
 .exact X.un.some hm
 .refine ai (bb.mp hm) λu g=>aw g λl j=>?_;clear g;clear hm;subst j;calc⟨_,X.us u l⟩
theorem bN.same(X:bN CH CB CU a O s)(h:∀b∈a.own s,ah b=O b):bN CH CB CU a ah s:=by have e:a.own s=a.bU++(a.bk.own++(a.un.own s.bh++s.uses.map bf.ad)):=rfl;have g:∀{x:Addr} (i:Nat),a.bU[i]? =Pp x->ah x=O x:=λ{x} i hi=>h x (by rw[e];calc dh _<|fZ hi);calc{at_:=X.at_.same (g 0 rfl)<|g 1 rfl,bk:=X.bk.same λb hb=>h b<|by rw[e];simp[hb],un:=X.un.same λb hb=>h b<|by rw[e];simp[hb],le:=(g 2 rfl).trans X.le,lf:=(g 3 rfl).trans X.lf,dk:=(g 4 rfl).trans X.dk,da:=(g 5 rfl).trans X.da,lw:=(g 6 rfl).trans X.lw,us:=λu j=>(h _<|by rw[e];calc cn _<|cn _<|cn _<|cL j).trans<|X.us u j,nd:=X.nd}
theorem bN.fresh(X:bN CH CB CU a O s){b:Addr}(h:O b=none):b∉a.own s:=λhm=>by calc ai (X.some hm) λm e=>?_;rw[h] at e;calc bp e
theorem bN.JU(X:bN CH CB CU a O s){par:List Nat}{bh:List Addr}{mem:List<|List Nat}{mg:List PV}(Y:gw CU a.un ah par bh mem mg)(D:∀b,b∉a.un.own s.bh->O b≠none->ah b=O b)(j:∀b∈a.un.own bh,b∈a.un.own s.bh\/O b=none):bN CH CB CU a ah {s with par:=par,bh:=bh,mem:=mem,mg:=mg}/\Fr O ah (a.own s) (a.own {s with par:=par,bh:=bh,mem:=mem,mg:=mg}):=by
 have S:=X.sep
 have r:∀b∈a.own s,b∉a.un.own bh\/b∈a.un.own s.bh:=λb hb=>by
  by_cases h:b∈a.un.own bh
  .rcases j b h with h'|h'
   .exact .inr h'
   .exact absurd hb<|X.fresh h'
  .exact .inl h
 have e:∀s:Hp,a.own s=a.bU++(a.bk.own++(a.un.own s.bh++s.uses.map bf.ad)):=λZ=>rfl;have hk:∀b,b∈a.own s->b∉a.un.own s.bh->ah b=O b:=λb hb h=>D b h λz=>X.fresh z hb;have l:∀b∈a.bU,b∈a.own s:=λb hb=>by rw[e];simp[hb]
 have m:∀b∈a.bk.own,b∈a.own s:=λb hb=>by rw[e];simp[hb]
 have p:∀b∈s.uses.map bf.ad,b∈a.own s:=λb hb=>by rw[e];exact cn _<|cn _<|cn _ hb
 have q:∀{x:Addr} (i:Nat),a.bU[i]? =Pp x->ah x=O x:=λ{x} i hi=>hk x (l x<|fZ hi) (S.s1 x<|fZ hi).2.1;have cv:∀b∈a.own s,b∉a.un.own s.bh->b∉a.un.own bh:=λb hb h=>(r b hb).elim id λh'=>absurd h' h;refine⟨{at_:=X.at_.same (q 0 rfl)<|q 1 rfl,bk:=X.bk.same λb hb=>hk b (m b hb) (S.s2 b hb).1,un:=Y,le:=(q 2 rfl).trans X.le,lf:=(q 3 rfl).trans X.lf,dk:=(q 4 rfl).trans X.dk,da:=(q 5 rfl).trans X.da,lw:=(q 6 rfl).trans X.lw,us:=λu C=>(hk _ (p _<|cL C) λhm=>S.s3 _ hm<|cL C).trans<|X.us u C,nd:=Fq.mpr ?_},?_⟩
 .exact⟨S.bU,λx g=>aR ((S.s1 x g).1) (cv x (l x g) (S.s1 x g).2.1)<|(S.s1 x g).2.2,λx g=>⟨cv x (m x g) (S.s2 x g).1,(S.s2 x g).2⟩,λx g hm=>cv x (p x hm) (λh=>S.s3 x h hm) g,S.bk,Y.nd,S.us⟩
 .refine⟨λb hb z=>D b (λhm=>hb<|by rw[e];simp[hm]) z,λb hb=>?_⟩;rw[e] at hb|-;simp only[ca] at hb|-;rcases hb with h|h|h|h
  .exact .inl<|.inl h
  .exact .inl<|.inr<|.inl h
  .exact(j b h).elim (λh=> .inl<|.inr<|.inr<|.inl h) .inr
  .exact .inl<|.inr<|.inr<|.inr h
theorem Fr.up{x:Addr}{m:MO}{o:List Addr}(h:x∈o):Fr O (upd O x m) o o:=⟨λb hb Z=>aC λe=>hb<|e▸h,λZ h=> .inl h⟩
theorem qh(a:cg)(s:Hp){x:Addr}(h:x∈a.bU):x∈a.own s:=by have e:a.own s=a.bU++(a.bk.own++(a.un.own s.bh++s.uses.map bf.ad)):=rfl;rw[e];calc dh _ h
end
section
variable{c:Cx}{k:Nat}{V:Env}{O:al}{ρ:az}{CH CB CU:Addr}{a:cg}{s:Hp}
theorem rb:(Dt.int n).key=true:=rfl
theorem qP:(Dt.int n).depth<=6:=cO 6
theorem Lm(W:Wd c CH CB CU)(F:Fn c f<|bj (aK 20) 9)(X:bN CH CB CU a O s)(G:Good e s)(hi:i<s.nodes.length)(hj:j<s.nodes.length)(he:e<=1000)(q0:∀ah l,root s.par i=root s.par j->l.length=s.jk.length+1->bN CH CB CU a ah {s with jk:=l}->Fr O ah (a.own s) (a.own s)->Q (.d<|.bool false) ah)(q:∀s' ah,bN CH CB CU a ah s'->Good e s'->s'.nodes=s.nodes->s'.mg.length=s.mg.length+1->Fr O ah (a.own s) (a.own s')->Q (.d<|.bool true) ah):aW c (k+1+1+1) (.ref f) [.ref a.h,aY i,aY j,.d r] O Q:=by
 have d3:=W.len;have b8:i<s.par.length:=by rw[G.pl];exact hi
 have b9:j<s.par.length:=by rw[G.pl];exact hj
 have hz:=G.nz;have a1:=G.zS;have c0:=G.el;have a7:=G.gu;calc aE X.at_.ns λn σ C=>lI C λD h1 h2 h3 h4 h5 h6 h7 _=>cY F rfl λV d4=>aU<|eG ?_;tm_at"m";lk;calc⟨_,_,_,_,_,_,rfl,X.at_.ob,D,h3,rfl,W.H.cls,W.H.jk,ij X.le lR mY<|ba<|cT ?_⟩;lk;calc⟨lb rfl,.inl ⟨[.int i,.int j,r],rfl,?_⟩⟩;lk;calc lF X.le (by unfold small;calc(ax 0x205f1206f3209f524531) he a1 c0) ?_;have X1:=X.YQ<|s.jk++[PV.d (.tup [.int i,.int j,r])];have f1:Fr O (upd O a.le<|.lst<|s.jk++[PV.d (.tup [.int i,.int j,r])]) (a.own s) (a.own s):=Fr.up<|qh a s (by(unfold cg.bU;simp));generalize upd O a.le (.lst<|s.jk++[PV.d (.tup [.int i,.int j,r])])=d5 at X1 f1|-;calc aE X1.at_.ns λn σ C=>bV C λD h1 h2 _=>aU<|cz ?_;tm_at"m";lk;calc⟨_,_,_,_,_,_,rfl,X1.at_.ob,D,h2,rfl,W.H.cls,W.H.tj,pP X1.un.at_ W.U.cls W.Nc (by decide+kernel) (by decide+kernel) (by decide+kernel) λg hg=>?_⟩;lk;refine YY W.U W.mE W.kX hg X1.un G.cH b8 b9 (lN G.cH b8) (lN G.cH b9) (by show s.par.length<=100;rw[G.pl];calc(aB 141718325745) hz) (λms h=>by have:=G.mz h;calc(aB 141718325745) this) (by show s.mg.length<=100;calc(aB 141718325745) a1) (λc9=>?_) λp g a8 a9 b0 Y d0=>?_
 .lk;calc KU rfl ⟨_,rfl,cB rfl ?_⟩;lk;exact q0 _ _ c9 (bA) X1 f1
 .have c3:=(X1.JU Y (λb hb _=>d0 b hb) λb hb=> .inl hb);have X2:=c3.1
  have a2:s.par.getD p 0=p:=by rcases a9 with⟨h,_⟩|⟨h,_⟩<;>rw[h]<;>exact qZ G.cH _ ‹_›
  have a3:s.par.getD g 0=g:=by rcases a9 with⟨_,h⟩|⟨_,h⟩<;>rw[h]<;>exact qZ G.cH _ ‹_›
  have b1:g<s.nodes.length:=by rw[<-G.pl];rcases a9 with⟨_,h⟩|⟨_,h⟩<;>rw[h]<;>exact lN G.cH ‹_›
  calc ai (G.ur p ((cK 0x73175161a6500f735) b0 a2 a3 b1) a2) λup C=>?_;have P:=C.1;have T:=C.2;calc ai (G.ur g b1 a3) λN C=>?_;have J:=C.1;have Z:=C.2;have b2:=G.uL N J;lk;calc KU rfl ⟨_,rfl,cy rfl<|cE<|aU<|cz ?_⟩;lk;calc DL As (by rfl) (by rfl)<|vy (by rfl)<|jL<|vy (by rfl)<|jL<|FV<|aE X2.at_.ns λn σ C=>lI C λD h1 h2 h3 h4 h5 h6 h7 _=>aU<|eG ?_;tm_at"m";lk;calc⟨_,_,_,_,_,_,rfl,X2.at_.ob,D,h4,rfl,W.H.cls,W.H.lj,ij X2.lf lR mY ?_⟩;lk;calc⟨_,_,_,_,_,_,rfl,X2.at_.ob,D,h3,rfl,W.H.cls,W.H.jk,?_⟩;lk;calc jm X2.le (by unfold small;simp;calc(ax 0x228f1206f3209f524531) he a1 c0) ?_;lk;calc lF X2.lf (by unfold small;show s.lj.length<=_;calc(aq 569483145982513) a1 G.fl) ?_;generalize PV.d (Dt.int<|((s.jk++[PV.d (Dt.tup [Dt.int (i:Nat),Dt.int (j:Nat),r])]).length:Nat) -1)=fo;have X3:=X2.RH<|s.lj++[fo];have f3:Fr a8 (upd a8 a.lf<|.lst<|s.lj++[fo]) (a.own s) (a.own s):=Fr.up<|qh a s (by(unfold cg.bU;simp));generalize upd a8 a.lf (.lst<|s.lj++[fo])=b3 at X3 f3|-;calc aE X3.at_.ns λn σ C=>lI C λD h1 h2 h3 h4 h5 h6 h7 _=>aU<|eG ?_;tm_at"m";lk;calc⟨_,_,_,_,_,_,rfl,X3.at_.ob,D,h7,rfl,W.H.cls,W.H.waiting,ij X3.lw rT BJ ?_⟩;lk;calc⟨_,_,_,_,_,_,rfl,X3.at_.ob,D,h6,rfl,W.H.cls,W.H.above,?_⟩;lk;have a0:∀{u:bf} {m:Nat},u∈s.uses->u.key=m->dH (s.uses.map bf.row) (.int (m:Nat))=some (.ref u.ad):=λ{u m} h e=>e▸Kv G.uk h;calc pL X3.da rb qP (a0 J Z) ?_;lk;have S:∀{u:bf},u∈s.uses->u.ad∈s.uses.map bf.ad:=λh=>cL h;calc Jv (λe=>(X3.sep.s1 a.lw<|by(unfold cg.bU;simp)).2.2<|e▸S J) X3.lw (X3.us N J) (by unfold small;rw[au,au];show s.waiting.length+_<=_;calc(cK 0x205f431209f522ffa2414fa54100f214fa3) hz a7 G.kz b2.1) ?_;rw[show s.waiting.map aY++N.xs.map aY=(s.waiting++N.xs).map aY by rw[cb]];have L:=X3.Jj<|s.waiting++N.xs;have f4:Fr b3 (upd b3 a.lw<|.lst<|(s.waiting++N.xs).map aY) (a.own s) (a.own s):=Fr.up<|qh a s (by(unfold cg.bU;simp));generalize upd b3 a.lw (.lst<|(s.waiting++N.xs).map aY)=d1 at L f4|-;calc aE L.at_.ns λn σ C=>lI C λD h1 h2 h3 h4 h5 h6 h7 _=>?_;have S4:=L.sep;have a5:∀{u:bf},u∈s.uses->u.ad≠a.da:=λh e=>(S4.s1 a.da<|by(unfold cg.bU;simp)).2.2<|e▸S h;calc aU<|cz ?_;lk;calc⟨_,_,_,_,_,_,rfl,L.at_.ob,D,h6,rfl,W.H.cls,W.H.above,?_⟩;lk;calc pL L.da rb qP (a0 P T) ?_;tm_at"m";lk;calc⟨_,_,_,_,_,_,rfl,L.at_.ob,D,h6,rfl,W.H.cls,W.H.above,vU L.da I6 PySem.F.type_dict_pop ?_⟩;lk;have c4:s.uses.length<=7:=aL G.uz G.nz;calc Yy L.da ⟨rb,qP⟩ (by unfold small;rw[au];show s.uses.length<=_;calc(aB 139033971185) c4) (a0 J Z)<|RG ((aC<|a5 P).trans<|L.us up P) ((aC<|a5 J).trans<|L.us N J) (by unfold small;rw[au,au];calc(ax 0x205f43122ff5214f51214f53) a7 (G.uL up P).1 b2.1) λz hz=>?_;rw[show up.xs.map aY++N.xs.map aY=(up.xs++N.xs).map aY by rw[cb]];have c5:=(dE hz);have z2:=c5.2;have a6:=L.fresh z2;have b4:∀x∈a.bU,x≠z:=λx hx e=>a6<|e▸qh a _ hx;lk;calc⟨_,_,_,_,_,_,rfl,(aC<|b4 _<|by(unfold cg.bU;simp)).trans<|(aC<|nq L.sep.bU 0 5).trans L.at_.ob,(aC<|b4 _<|by(unfold cg.bU;simp)).trans<|(aC<|nq L.sep.bU 1 5).trans D,h6,rfl,W.H.cls,W.H.above,?_⟩;lk;have d2:(lQ (s.uses.map bf.row)<|.int (g:Nat)).length<=7:=by unfold lQ;exact aL (ww _ _)<|by rw[au];exact c4
  refine pN ((aC<|b4 _<|by(unfold cg.bU;simp)).trans bo) ⟨rb,qP⟩ (by unfold small;show(lQ (s.uses.map bf.row)<|.int (g:Nat)).length<=_;calc(aB 139033971185) d2)<|aU<|eX<|xB ?_
  have X7:=L.DU (ah:=upd (upd (upd d1 a.da<|.aM<|lQ (s.uses.map bf.row)<|.int (g:Nat)) z<|.lst<|(up.xs++N.xs).map aY) a.da<|.aM<|dput (lQ (s.uses.map bf.row)<|.int (g:Nat)) (.int (p:Nat))<|.ref z) (us':=mK s.uses p g z<|up.xs++N.xs)
   (by rw[bo,(Zm (us:=s.uses) (p:=p) (g:=g) ((dU 0xd63173161563a6100f6307f) b0 a2 a3 T Z) ⟨up,P,T⟩ (z:=z) (ys:=up.xs++N.xs))]) (λu hu=>by
    rcases yE hu with rfl|⟨h,_,_⟩
    .exact(aC c5.1).trans bo
    .exact(aC<|a5 h).trans<|(aC λe=>a6<|by rw[<-e];calc cn _<|cn _<|S h).trans<|(aC<|a5 h).trans<|L.us u h)
   (λb hb c6=>(aC c6).trans ((aC λe=>a6 (by
    rw[<-e];rcases ca.mp hb with h|h
    .exact dh _ h
    .exact cn _<|dh _ h)).trans (aC c6))) ?_ ?_
  .refine q _ _ X7 (G.join (by rw[X.un.ml]) a2 a3 b0 b1 (v:= .d<|.tup [.int (p:Nat),.int (g:Nat)]) (ed:=PV.d<|.tup [.int i,.int j,r]) (fo:=fo) (z:=z) P J) rfl (by show(s.mg++[_]).length=_;rw[bA,gG])<|(f1.trans<|c3.2.trans<|f3.trans<|f4.trans (DJ:=a.own<|joined s p g (.d<|.tup [.int (p:Nat),.int (g:Nat)]) (PV.d<|.tup [.int i,.int j,r]) fo z up.xs N.xs) ⟨λb hb hn=>?_,λb hb=>?_⟩)
   .have c7:b≠a.da:=λe=>hb (by rw[e];calc qh a s<|by(unfold cg.bU;simp));rw[aC c7,aC λe:b=z=>hn<|by rw[e];calc z2,aC c7]
   .rcases ca.mp hb with h|h
    .exact .inl<|dh _ h
    .rcases ca.mp h with h|h
     .exact .inl<|cn _<|dh _ h
     .refine ai (bb.mp h) λu C=>aw C λhu b5=>?_;clear C;subst b5;rcases yE hu with rfl|⟨h,_,_⟩
      .exact .inr z2
      .exact .inl<|cn _<|cn _<|S h
  .have c8:∀(us:List bf),(us.map bf.ad).Nodup->(us.map bf.key).Nodup->(∀u∈us,u.ad≠z)->((mK us p g z<|up.xs++N.xs).map bf.ad).Nodup:=by
    intro us;induction us with
    |nil=>intros;calc hX
    |cons u us ih=>
     intro n1 n2 n3;rw[dK,iM] at n1 n2;have b6:=ih n1.2 n2.2 λv hv=>n3 v<|dw _ hv;unfold mK at b6|-;rw[wC];split
     .rw[dK,dK,iM];calc⟨λhm=>ai (bb.mp hm) λv C=>aw C λhv I=>ai (bb.mp hv) λw C=>aw C λhw b5=>?_,b6⟩;clear C;clear hv C;subst b5;have b7:=(gK.mp hw).1;unfold bf.turn at I;by_cases c1:w.key=p
      .rw[if_pos c1] at I;by_cases c2:u.key=p
       .exact n2.1<|by rw[c2,<-c1];exact cL b7
       .rw[if_neg c2] at I;exact n3 u dC I.symm
      .rw[if_neg c1] at I;by_cases c2:u.key=p
       .rw[if_pos c2] at I;exact n3 w (dw _ b7) I
       .rw[if_neg c2] at I;exact n1.1<|by rw[<-I];exact cL b7
     .exact b6
   refine c8 s.uses S4.us G.uk λu hu e=>a6<|by rw[<-e];exact cn _<|cn _<|S hu
  .intro u hu;rcases yE hu with rfl|⟨h,_,_⟩
   .exact .inr z2
   .exact .inl<|S h
theorem yu{a:Addr}{l:List<|Dt×PV}{x:Dt}{p:PV}{Q:PV->al->Prop}(m:O a=some (.aM l))(r:Key x)(hs:small l.length)(q:∀g ah,(dH l x=some g/\ah=O)\/(x∉l.map (·.1)/\g=p/\ah=upd O a (.aM<|l++[(x,p)]))->Q g ah):aW c k (.builtin "dict.setdefault") [.ref a,.d x,p] O Q:=by
 calc ZA m r hs ?_;cases h:dH l x with
 |some g=>calc q g O<|.inl ⟨h,rfl⟩
 |none=>
  have j:=Ir h;have:=q p _<|.inr<|aR j rfl rfl;unfold dput;rwa [if_neg j]
theorem Good.Uo(G:Good e s)(g:n<s.nodes.length)(hk:s.known.length+s.waiting.length+1<=s.nodes.length+2*(s.nodes.length*2^s.mg.length)):Good e {s with known:=s.known++[(x,aY n)]}:={pl:=G.pl,nz:=G.nz,ok:=G.ok,lt:=G.lt,cH:=G.cH,jK:=G.jK,lL:=G.lL,ou:=G.ou,el:=G.el,fl:=G.fl,kv:=λp hp=>(ca.mp hp).elim (G.kv p) λh=>by rw[ci.mp h];calc⟨n,rfl,g⟩,kz:=by show(s.known++[(x,aY n)]).length+s.waiting.length<=s.nodes.length+2*(s.nodes.length*2^s.mg.length);rw[bA,gG];calc(aV 0x2414fa543b2414fa548431) hk,uk:=G.uk,ur:=G.ur,uz:=G.uz,ul:=G.ul,uL:=G.uL,wL:=G.wL}
theorem MJ(W:Wd c CH CB CU)(F:Fn c f<|bj (aK 20) 5)(X:bN CH CB CU a O s)(G:Good e s)(p:n<s.nodes.length)(he:e<=1000)(hk:s.known.length+s.waiting.length+1<=s.nodes.length+2*(s.nodes.length*2^s.mg.length))(q:∀s' ah,bN CH CB CU a ah s'->Good e s'->s'.nodes=s.nodes->(s'.mg.length=s.mg.length+1\/(s'.mg=s.mg/\s'.waiting=s.waiting))->Fr O ah (a.own s) (a.own s')->Q (.d .none) ah):aW c (k+1+1+1+1) (.ref f) [.ref a.h,aY n] O Q:=by
 have hz:=G.nz;have L:s.par.length<=1000:=by rw[G.pl];exact qd hz
 calc aE X.at_.ns λm σ l=>lI l λN h1 h2 h3 h4 h5 h6 h7 _=>cY F rfl λV a3=>aU<|cz ?_;tm_at"m";lk;calc⟨_,_,_,_,_,_,rfl,X.at_.ob,N,h5,rfl,W.H.cls,W.H.known,vU X.dk yH BG<|ba ?_⟩;tm_at"m";lk;calc eF X.at_ W.H.cls W.zq (by decide+kernel) λg hg=>?_;lk;calc IN W.H W.B W.U W.tup W.Fw W.EW W.kX W.kQ hg X.at_ X.bk.at_ X.un.at_ G.cH p (qd hz) L (by have:=G.kids p;calc(ax 570584076518641) p this) (G.below p) ?_;lk;refine yu X.dk (wf<|(G.ok _<|gJ p).ok.1.facts.1) (by unfold small;calc(aV 0x205f12414fa548431209f522ffa) hk hz G.gu) λp' D hp=>?_
 obtain⟨s1,j,rfl,r,I,kY,J,P,hj,f1,z⟩:∃(s1:Hp) (j:Nat),p'=aY j/\bN CH CB CU a D s1/\Good e s1/\s1.nodes=s.nodes/\s1.mg=s.mg/\s1.waiting=s.waiting/\j<s.nodes.length/\Fr O D (a.own s) (a.own s)/\a.own s1=a.own s:=by
  rcases hp with⟨hp,rfl⟩|⟨_,rfl,rfl⟩
  .refine ai (jX.mp hp) λy l=>?_;have hy:=l.1;have S:=l.2;clear l;clear hp;subst S;calc ai (G.kv y<|tO hy) λj l=>?_;exact bv s j<|Ao l.1 X G rfl rfl rfl l.2 Fr.refl rfl
  .exact bv _ n<|Ao rfl (X.UH _) (G.Uo p hk) rfl rfl rfl p (Fr.up<|qh a s<|by(unfold cg.bU;simp)) rfl
 have T:n<s1.par.length:=by rw[I.pl,kY];exact p
 have Y:j<s1.par.length:=by rw[I.pl,kY];exact hj
 have C:s1.par.length<=1000:=by rw[I.pl,kY];exact qd hz
 lk;tm_at"m";lk;calc eF r.at_ W.H.cls W.kQ (by decide+kernel) λg hg=>?_;lk;calc ot W.H W.U W.kX hg r.at_ r.un.at_ I.cH Y C ?_;tm_at"m";lk;calc eF r.at_ W.H.cls W.kQ (by decide+kernel) λg hg=>?_;lk;calc ot W.H W.U W.kX hg r.at_ r.un.at_ I.cH T C<|kU et et ⟨_,rfl,?_⟩;by_cases Z:root s1.par j=root s1.par n
 .refine cy (by rw[decide_eq_true (by rw[Z])];rfl) ?_;lk;exact q s1 D r I kY (.inr ⟨J,P⟩)<|by rw[z];exact f1
 .refine cB (by rw[decide_eq_false (by rw[lc];calc Z)];rfl)<|aU<|eG ?_;tm_at"m";lk;calc eF r.at_ W.H.cls W.Dd (by decide+kernel) λg hg=>?_;lk;calc cT ?_;lk;calc⟨lb rfl,.inl ⟨[.str (ak "like")],rfl,?_⟩⟩;lk;calc Lm W hg r I (by rw[kY];calc hj) (by rw[kY];calc p) he (λ_ _ h=>absurd h Z) λs2 a0 X2 G2 a1 a2 f2=>?_;lk;rw[z] at f2;calc q s2 a0 X2 G2 (a1.trans kY) (.inl<|by rw[a2,J])<|f1.trans f2
theorem Tq(W:Wd c CH CB CU)(F:Fn c f<|bj (aK 20) 10)(X:bN CH CB CU a O s)(G:Good e s)(he:e<=1000)(q:∀s' ah,bN CH CB CU a ah s'->Good e s'->s'.nodes=s.nodes->Fr O ah (a.own s) (a.own s')->Q (.d .none) ah):aW c (k+1+1+1+1+1) (.ref f) [.ref a.h] O Q:=by
 have a6:=W.len;calc cY F rfl λV a7=>aU<|Eg (λm ah N=>N (ak "self")=some (.ref a.h)/\∃s',bN CH CB CU a ah s'/\Good e s'/\s'.nodes=s.nodes/\Fr O ah (a.own s) (a.own s')/\m=(8 -s'.mg.length)*2000+s'.waiting.length) _ ⟨rfl,⟨s,km X G rfl Fr.refl rfl⟩⟩ ?_;intro m ah N p;have J:=p.1;have P:=p.2;calc ai P λs' S=>fi S λz j kY fr a1=>?_;clear P S p;subst a1;have hz:=j.nz;have D:=j.gu;have C:=j.kz;have a8:=j.zS;calc aE z.at_.ns λ_ σ p=>lI p λT h1 h2 h3 h4 h5 h6 h7 _=>?_;lk;tm_at"A";calc⟨_,_,_,_,_,_,rfl,z.at_.ob,T,h7,rfl,W.H.cls,W.H.waiting,?_⟩;lk;calc jm z.lw (by unfold small;rw[au];calc(aV 0x205f1209f322ff52414f5341a) hz D C) ?_;lk;calc⟨_,rfl,?_⟩;rcases K6 s'.waiting with I|⟨l,x,I⟩
 .refine cy (decide_eq_false<|by rw[I];decide) ?_;lk;exact q s' ah z j kY fr
 .refine cB (decide_eq_true<|wN.mpr<|by rw[I,Ol,au,bA];calc ph _) ?_
  rw[Ol] at I;have hx:=j.wL x (by rw[I];simp);have U:=z.lw;rw[I,cb] at U;calc aU<|eG ?_;tm_at"m";tm_at"A";calc eF z.at_ W.H.cls W.FD (by decide+kernel) λg hg=>ba ?_;tm_at"m";lk;tm_at"A";calc⟨_,_,_,_,_,_,rfl,z.at_.ob,T,h7,rfl,W.H.cls,W.H.waiting,ij z.lw Og H8 ?_⟩;lk;have r:s'.waiting.length=l.length+1:=by rw[I];simp
  calc Nt U (by unfold small;rw[au];calc(cK 0x205fb209f322ff52414f53400fa6b00f) hz D C r) ?_;have X1:=z.Jj l;have G1:Good e {s' with waiting:=l}:={pl:=j.pl,nz:=j.nz,ok:=j.ok,lt:=j.lt,cH:=j.cH,jK:=j.jK,lL:=j.lL,ou:=j.ou,el:=j.el,fl:=j.fl,kv:=j.kv,kz:=by show s'.known.length+l.length<=s'.nodes.length+2*(s'.nodes.length*2^s'.mg.length);calc(cK 0x2414fa54312414fa5400f16c00f) C r,uk:=j.uk,ur:=j.ur,uz:=j.uz,ul:=j.ul,uL:=j.uL,wL:=λy hy=>j.wL y<|by rw[I];simp[hy]};have f1:Fr ah (upd ah a.lw<|.lst<|l.map aY) (a.own s') (a.own s'):=Fr.up<|qh a s' (by(unfold cg.bU;simp));lk;calc MJ W hg X1 G1 hx he (by show s'.known.length+l.length+1<=s'.nodes.length+2*(s'.nodes.length*2^s'.mg.length);calc(cK 0x2414fa5484312414fa5400f16c00f) C r) λs2 a9 X2 Y a2 a3 f2=>?_;lk;have Z:=Y.zS;have a5:=Y.nz;have L:=Y.gu;have a0:=Y.kz;calc⟨_,?_,J,s2,X2,Y,a2.trans kY,fr.trans<|f1.trans f2,rfl⟩;rcases a3 with h|⟨h,h'⟩
  .have h:s2.mg.length=s'.mg.length+1:=h;rw[h];have:8 -(s'.mg.length+1)+1=8 -s'.mg.length:=(aq 0x6912ef489b2ef209f36b36b3) Z (by assumption) h;rw[<-this,PM];exact(oo 0x745442f36f143160df5209f00f22ff07f2414f07f00f4313f) r a5 L a0
  .rw[h,h'];show(8 -s'.mg.length)*2000+l.length<_;calc(ax 499579557573) r
end
section
variable{c:Cx}{k:Nat}{V:Env}{O ah:al}{ρ:az}{CH CB CU:Addr}{a:cg}{s:Hp}
theorem xc:(par++[n]).getD i 0=if i<par.length then par.getD i 0 else if i=par.length then n else 0:=by
 rw[wq,wq,GI];split
 .rfl
 .split
  .rename_i h;simp[h]
  .rename_i h1 g;rw[qp (by simp;calc(aq 724684852287025) h1 g)];rfl
theorem Bp(hf:iL par):iL (par++[par.length]):=λi hi=>by
 rw[bA,gG] at hi;rw[xc];split
 .exact hf i ‹_›
 .rename_i h;split
  .exact lX.mp h
  .exact cO _
theorem Fm(hf:iL par):∀(i:Nat),i<par.length->root (par++[par.length]) i=root par i:=by
 intro i;induction i using Cj with
 |_ i g=>
  intro hi;have hd:=xc (par:=par) (n:=par.length) (i:=i);rw[if_pos hi] at hd;rw[nN (Bp hf) (by simp;calc tA hi),nN hf hi,hd];split
  .rfl
  .have:=hf i hi;calc g (par.getD i 0) ((aq 494414271025) (by assumption) this)<|tf hi this
theorem LP(hf:iL par):root (par++[par.length]) par.length=par.length:=by have hd:=xc (par:=par) (n:=par.length) (i:=par.length);rw[if_neg (by calc(aB 55057)),if_pos rfl] at hd;rw[nN (Bp hf) (by simp),if_pos hd]
noncomputable def grown(s:Hp)(nd:Nd)(w d:Int)(l:Addr)(us:List bf):Hp:={s with nodes:=s.nodes++[nd],ws:=s.ws++[w],ds:=s.ds++[d],par:=s.par++[s.par.length],bh:=s.bh++[l],mem:=s.mem++[[s.par.length]],uses:=us}
theorem Good.more(G:Good e s)(X:s.mem.length=s.par.length)(h6:s.nodes.length<=6)(a1:pD nd.op nd.kids.length)(hv:∀j∈nd.kids,j<s.nodes.length)(hk:us.map bf.key=s.uses.map bf.key++[s.nodes.length])(hL:∀u∈us,u.xs.length<=2*(s.nodes.length*2^s.mg.length)+2/\∀x∈u.xs,x<s.nodes.length+1):Good e (grown s nd w d l us):=by
 have z:(s.nodes++[nd]).length=s.nodes.length+1:=bA;have C:=G.pl;have L:(s.nodes++[nd]).length*2^s.mg.length=s.nodes.length*2^s.mg.length+2^s.mg.length:=by rw[z,PM,CA]
 have N:1<=2^s.mg.length:=Nat.one_le_two_pow;have Y:us.length=s.uses.length+1:=by have:=congrArg Cw hk;simpa using this
 refine{pl:=by show(s.par++[_]).length=(s.nodes++[nd]).length;simp[C],nz:=by show(s.nodes++[nd]).length<=7;calc(aq 573881212417729) h6 z,ok:= ?_,lt:= ?_,cH:=Bp G.cH,jK:= ?_,lL:= ?_,ou:= ?_,el:=G.el,fl:=G.fl,kv:= ?_,kz:= ?_,uk:= ?_,ur:= ?_,uz:= ?_,ul:= ?_,uL:= ?_,wL:= ?_}
 .intro n hn;rcases ca.mp hn with h|h
  .exact G.ok n h
  .rw[ci.mp h];exact a1
 .intro i n hn j hj;have I:(s.nodes++[nd])[i]? =some n:=hn;rw[GI] at I;split at I
  .exact G.lt i n I j hj
  .have h0:i -s.nodes.length=0:=by
    have:=(dJ.mp I).1;simpa using this
   rw[h0] at I;obtain rfl:nd=n:=by simpa using I
   exact(aV 0x73160df5d7a37a1) z (by assumption)<|hv j hj
 .intro m hm;show m.Nodup/\∀x∈m,x<(s.nodes++[nd]).length;rw[z];rcases ca.mp hm with h|h
  .exact⟨(G.jK m h).1,λx Z=>by have:=(G.jK m h).2 x Z;calc(ax 33309873969) z this⟩
  .rw[ci.mp h];exact⟨uM,λx Z=>by rw[ci.mp Z];calc(ax 33309873713) z C⟩
 .intro r m hm hr i hi;have hm':(s.mem++[[s.par.length]])[r]? =some m:=hm;have g:(s.par++[s.par.length]).getD r 0=r:=hr;have S:i<(s.nodes++[nd]).length:=hi;show i∈m↔root (s.par++[s.par.length]) i=r;rw[z] at S;rw[GI] at hm';rw[xc] at g;split at hm'
  .rename_i T;rw[if_pos (by calc(dU 0x73163562bfa600f36107f751) X z C g T)] at g;by_cases H:i<s.par.length
   .rw[Fm G.cH i H];exact G.lL r m hm' g i<|(aV 0x7316c563a7a1) z C H
   .obtain rfl:i=s.par.length:=(aV 0x63160df56a370df1d731) z C S H;rw[LP G.cH];constructor
    .intro h;exact(aV 0x63160df56a17a1) z C<|(G.jK m<|fZ hm').2 _ h
    .intro h;omega
  .rename_i T
   have h0:r -s.mem.length=0:=by have:=(dJ.mp hm').1;simpa using this
   rw[h0] at hm';obtain rfl:[s.par.length]=m:=by simpa using hm'
   have U:r=s.par.length:=(dB [_,_,_,_,_,_] 0x63163562bfa600f36107fd7516e951) X z C g T h0;rw[ci];by_cases H:i<s.par.length
   .rw[Fm G.cH i H];exact⟨λh=>absurd h<|hZ H,λh=>absurd (h.trans U)<|hZ<|lN G.cH H⟩
   .obtain rfl:i=s.par.length:=(dB [_,_,_,_,_,_] 0x63160df56a3607f00f70df16307fd731) z C g S U H;rw[LP G.cH,U]
 .show(ends<|s.par++[s.par.length]).count true=s.mg.length;rw[<-G.ou];unfold ends;rw[OA,List.count_append];simp
 .refine λp hp=>ai (G.kv p hp) λj D=>?_;exact⟨j,D.1,by show j<(s.nodes++[nd]).length;calc(ax 7908649547601) z D.2⟩
 .show s.known.length+s.waiting.length<=(s.nodes++[nd]).length+2*((s.nodes++[nd]).length*2^s.mg.length);rw[L];exact(dU 0x2414f400fa543164807f5200f82414fa07f431) z N G.kz
 .show(us.map bf.key).Nodup;rw[hk];exact kg G.uk λh=>ai (bb.mp h) λu q=>absurd q.2<|hZ<|G.ul u q.1
 .intro r hr g;have a0:r<(s.nodes++[nd]).length:=hr;have J:(s.par++[s.par.length]).getD r 0=r:=g;show∃u∈us,u.key=r
  have:r∈us.map bf.key:=by
   rw[hk,ca];by_cases h:r<s.nodes.length
   .rw[xc,if_pos (by calc(dU 0x73160df56a36100f6107f7a1) z C g J h)] at J;calc ai (G.ur r h J) λu D=>aw D λP a2=>?_;clear D;clear g J hr h a0;subst a2;exact .inl<|cL P
   .exact .inr<|ci.mpr<|(cK 0x6316c561a7516100fd731) z g a0 J h
  exact ai (bb.mp this) λu D=>aw D λP h=>⟨u,P,h⟩
 .show us.length<=(s.nodes++[nd]).length;exact(aV 0x231603f360df125a) z Y G.uz
 .intro u P;show u.key<(s.nodes++[nd]).length;have hm:u.key∈us.map bf.key:=cL P;rw[hk,ca] at hm;rcases hm with h|h
  .refine ai (bb.mp h) λv D=>aw D λhv h=>?_;exact(aV 0x731603f361a75a) z h<|G.ul v hv
  .rw[ci.mp h];exact(aq 7542451) z
 .intro u P;show u.xs.length<=2*((s.nodes++[nd]).length*2^s.mg.length)/\∀x∈u.xs,x<(s.nodes++[nd]).length;rw[L,z];exact⟨(ax 0x214f45312582404f14f31) N<|(hL u P).1,(hL u P).2⟩
 .intro x Z;show x<(s.nodes++[nd]).length;calc(ax 7908649547601) z<|G.wL x Z
theorem bN.Yz(X:bN CH CB CU a O s)(Y:jO CB a.bk ah nodes ws ds)(h:∀b,b∉a.bk.own->ah b=O b):bN CH CB CU a ah {s with nodes:=nodes,ws:=ws,ds:=ds}:=by have S:=X.sep;have g:∀{x:Addr} (i:Nat),a.bU[i]? =Pp x->ah x=O x:=λ{x} i hi=>h x (S.s1 x<|fZ hi).1;calc{at_:=X.at_.same (g 0 rfl)<|g 1 rfl,bk:=Y,un:=X.un.same λb hb=>h b λhm=>(S.s2 b hm).1 hb,le:=(g 2 rfl).trans X.le,lf:=(g 3 rfl).trans X.lf,dk:=(g 4 rfl).trans X.dk,da:=(g 5 rfl).trans X.da,lw:=(g 6 rfl).trans X.lw,us:=λu j=>(h _ λhm=>(S.s2 _ hm).2<|cL j).trans<|X.us u j,nd:=X.nd}
noncomputable def bf.tell(r n:Nat)(u:bf):bf:=if u.key=r then{u with xs:=u.xs++[n]} else u
theorem Nw{u:bf}:(u.tell r n).key=u.key:=by unfold bf.tell;split<;>rfl
theorem ye{u:bf}:(u.tell r n).ad=u.ad:=by unfold bf.tell;split<;>rfl
theorem TN{us:List bf}(h:(us.map bf.key).Nodup){u v:bf}(q:u∈us)(r:v∈us)(e:u.key=v.key):u=v:=by
 calc ai (gk.mp q) λi hi=>ai (gk.mp r) λj hj=>ai (dJ.mp hi) λl m=>?_;calc ai (dJ.mp hj) λp g=>?_;have:i=j:=by calc(tW (h₀:=by simpa using l) (h₁:=by simpa using p) h).mp ?_;rw[nY,nY,m,g,e]
 clear g;subst this;rw[hi] at hj;calc gn hj
theorem bN.ZS(X:bN CH CB CU a O s)(hk:(s.uses.map bf.key).Nodup){u:bf}(z:u∈s.uses){n:Nat}:bN CH CB CU a (upd O u.ad<|.lst<|(u.xs++[n]).map aY) {s with uses:=s.uses.map<|bf.tell u.key n}:=by
 have S:=X.sep;have hm:u.ad∈s.uses.map bf.ad:=cL z;have m:(s.uses.map<|bf.tell u.key n).map bf.ad=s.uses.map bf.ad:=by rw[bg];exact gZ λv Z=>ye
 have C:a.da≠u.ad:=λe=>(S.s1 a.da<|by(unfold cg.bU;simp)).2.2<|e▸hm;refine X.DU ?_ (λv r=>?_) (λb hb J=>aC λe=>?_) (by rw[m];calc S.us) λv r=>?_
 .rw[aC C,X.da,bg];congr 2;calc gZ λv Z=>?_;show v.row=(v.tell u.key n).row;unfold bf.row;rw[Nw,ye]
 .refine ai (bb.mp r) λw g=>?_;have p:=g.1;have l:=g.2;clear g;subst l;rw[ye];by_cases e:w.key=u.key
  .obtain rfl:=TN hk p z e;unfold bf.tell;rw[bo,if_pos rfl]
  .have:w.ad≠u.ad:=λh=>by
    calc ai (gk.mp p) λi hi=>ai (gk.mp z) λj hj=>ai (dJ.mp hi) λD H=>?_;calc ai (dJ.mp hj) λI q=>?_;have:i=j:=by calc(tW (h₀:=by simpa using D) (h₁:=by simpa using I) S.us).mp ?_;rw[nY,nY,H,q,h]
    clear q;subst this;rw[hi] at hj;exact e<|by rw[gn hj]
   rw[aC this];unfold bf.tell;rw[if_neg e];exact X.us w p
 .rcases ca.mp hb with h|h
  .rcases ca.mp (show b∈a.bU++a.bk.own from h) with h|h
   .exact(S.s1 b h).2.2<|e▸hm
   .exact(S.s2 b h).2<|e▸hm
  .exact S.s3 b h<|e▸hm
 .refine ai (bb.mp r) λw g=>aw g λp l=>?_;clear g;clear r;subst l;rw[ye];calc .inl<|cL p
theorem rt(a:cg)(s:Hp):a.own s=a.bU++(a.bk.own++(a.un.own s.bh++s.uses.map bf.ad)):=rfl
theorem QB(par:List Nat)(l:List Nat):(l.map λj=>Dt.int (j:Nat)).map (vA par)=(l.map λj=>((root par j:Nat):Int)).map .int:=by rw[bg,bg];rfl
theorem RC(h:∀u∈us,u.key<n):dput (us.map bf.row) (.int (n:Nat)) (.ref z)=(us++[(⟨n,z,[]⟩:bf)]).map bf.row:=by
 unfold dput;rw[if_neg,cb]
 .rfl
 .intro hm;rw[bg] at hm;calc ai (bb.mp hm) λu g=>aw g λj e=>?_;have:=h u j;calc gm _<|(aq 33964627505) (by assumption)<|lc.mp<|show Dt.int (u.key:Nat)=Dt.int (n:Nat) from e
theorem Lb(W:Wd c CH CB CU)(F:Fn c f<|bj (aK 20) 3)(X:bN CH CB CU a O s)(G:Good e s)(he:e<=1000)(h6:s.nodes.length<=6)(Z:pD nd.op nd.kids.length)(hv:∀j∈nd.kids,j<s.nodes.length)(q:∀s' ah n,bN CH CB CU a ah s'->Good e s'->n<s'.nodes.length->s.nodes.length<=s'.nodes.length->s'.nodes.length<=s.nodes.length+1->(∀m,m∈s.nodes\/m=nd->m∈s'.nodes)->Fr O ah (a.own s) (a.own s')->Q (aY n) ah):aW c (k+1+1+1+1+1) (.ref f) [.ref a.h,.d<|.str nd.op,.d (.tup<|nd.kids.map λj=> .int (j:Nat))] O Q:=by
 have a6:s.par.length<=1000:=by rw[G.pl];exact(aB 139302411505) h6
 have N:=Z.ok.2;calc aE X.at_.ns λm σ p=>lI p λI h1 h2 h3 h4 h5 P h7 _=>cY F rfl λV c0=>aU<|cz ?_;tm_at"m";lk;calc⟨_,_,_,_,_,_,rfl,X.at_.ob,I,h1,rfl,W.H.cls,W.H.vG,uK X.bk.at_ W.B.cls W.Jl (by decide+kernel) (by decide+kernel) (by decide+kernel) (by decide+kernel) λg hg=>?_⟩;lk;by_cases b0:nd.dt∈s.nodes.map Nd.dt
 .refine ai (bb.mp b0) λd5 p=>?_;have hm:=p.1;have c1:=p.2;obtain rfl:=Nd.inj c1;calc ai (gk.mp hm) λi hi=>?_;have b1:=(dJ.mp hi).1;calc Vi W.B W.tup hg X.bk hi Z.ok.1.facts.1 ((aB 139302411505) h6) ((aB 139302405361) N) ?_;lk;tm_at"m";lk;calc⟨_,_,_,_,_,_,rfl,X.at_.ob,I,h2,rfl,W.H.cls,W.H.tj,pP X.un.at_ W.U.cls W.usize (by decide+kernel) (by decide+kernel) (by decide+kernel) λg hg=>?_⟩;lk;calc MI W.U W.len hg X.un.at_ a6<|Kt ⟨_,rfl,cB (decide_eq_true<|by rw[G.pl];calc(aq 0x8f01f301f1731) b1) ?_⟩;lk;exact q s O i X G b1 (xG) (Q8) (λm h=>h.elim id λh=>h▸hm) Fr.refl
 .refine VZ W.B W.len W.tup W.sum W.max W.Lr W.KA hg X.bk b0 Z.ok.1 ((aB 141718330609) h6) ((aB 141718324465) N) hv λb2 w d Y1 b3=>?_;have X1:=X.Yz Y1 b3;have f1:Fr O b2 (a.own s) (a.own s):=⟨λb hb _=>b3 b λhm=>hb<|by rw[rt];simp[hm],λ_ h=> .inl h⟩;calc aE X1.at_.ns λm σ p=>lI p λI h1 h2 h3 h4 h5 P h7 _=>?_;lk;tm_at"m";lk;calc⟨_,_,_,_,_,_,rfl,X1.at_.ob,I,h2,rfl,W.H.cls,W.H.tj,pP X1.un.at_ W.U.cls W.usize (by decide+kernel) (by decide+kernel) (by decide+kernel) λg hg=>?_⟩;lk;calc MI W.U W.len hg X1.un.at_ a6<|Kt ⟨_,rfl,cy (decide_eq_false<|by show¬((s.nodes.length:Int)<(s.par.length:Nat));rw[G.pl];calc(aB 0xd08f01f101f1))<|cE<|aU<|eG ?_⟩;tm_at"m";lk;calc⟨_,_,_,_,_,_,rfl,X1.at_.ob,I,h2,rfl,W.H.cls,W.H.tj,pP X1.un.at_ W.U.cls W.Mj (by decide+kernel) (by decide+kernel) (by decide+kernel) λg hg=>?_⟩;lk;refine Qh W.U W.len hg X1.un a6 λJ l hl Y2 c2=>?_
  obtain⟨S,f2⟩:=X1.JU Y2 (λb hb hn=>c2 b hb λe=>hn<|e▸hl) λb hb=>by
   unfold kO.own at hb|-;simp only[dD,ca,wB,or_false] at hb|-;rcases hb with h|h|h|h|h|h|h
   .exact .inl<|.inl h
   .exact .inl<|.inr<|.inl h
   .exact .inl<|.inr<|.inr<|.inl h
   .exact .inl<|.inr<|.inr<|.inr<|.inl h
   .exact .inl<|.inr<|.inr<|.inr<|.inr<|.inl h
   .exact .inl<|.inr<|.inr<|.inr<|.inr<|.inr h
   .exact .inr<|h▸hl
  have S:bN CH CB CU a J (grown s nd w d l s.uses):=S;have f2:Fr b2 J (a.own s) (a.own<|grown s nd w d l s.uses):=f2;calc aE S.at_.ns λm σ p=>lI p λI h1 h2 h3 h4 h5 P h7 _=>aU<|cz<|iV ?_;lk;calc⟨lb rfl,λz hz=>?_⟩;have a7:=S.fresh hz;have a0:∀x∈a.bU,x≠z:=λx Y e=>a7<|e▸qh a _ Y;lk;calc⟨_,_,_,_,_,_,rfl,(aC<|a0 _<|by(unfold cg.bU;simp)).trans S.at_.ob,(aC<|a0 _<|by(unfold cg.bU;simp)).trans I,P,rfl,W.H.cls,W.H.above,?_⟩;lk;have c3:s.uses.length<=7:=aL G.uz G.nz;have b4:J a.da=some (.aM<|s.uses.map bf.row):=S.da;calc pN ((aC<|a0 _<|by(unfold cg.bU;simp)).trans b4) ⟨rb,qP⟩ (by unfold small;show(s.uses.map bf.row).length<=_;rw[au];calc(aB 139033971185) c3) ?_;have c4:=RC (us:=s.uses) (n:=s.nodes.length) G.ul (z:=z);have S2:=S.sep;have b5:z∉s.uses.map bf.ad:=λhm=>a7<|by rw[rt];exact cn _<|cn _<|cn _ hm
  have X3:=S.DU (ah:=upd (upd J z<|.lst []) a.da<|.aM<|dput (s.uses.map bf.row) (.int (s.nodes.length:Nat))<|.ref z) (us':=s.uses++[⟨s.nodes.length,z,[]⟩]) (by rw[bo,c4]) (λu L=>by
    rcases ca.mp L with h|h
    .have hm:u.ad∈s.uses.map bf.ad:=cL h;exact(aC λe:u.ad=a.da=>(S2.s1 a.da<|by(unfold cg.bU;simp)).2.2<|show a.da∈s.uses.map bf.ad from e▸hm).trans<|(aC λe:u.ad=z=>b5<|e▸hm).trans<|S.us u h
    .rw[ci.mp h];calc(aC<|cI<|a0 _<|by(unfold cg.bU;simp)).trans bo)
   (λb hb c5=>(aC c5).trans (aC λe=>a7 (by
    rw[<-e];rcases ca.mp hb with h|h
    .exact dh _ h
    .exact cn _<|dh _ h)))
   (by rw[cb];calc kg S2.us b5)
   (λu L=>by
    rcases ca.mp L with h|h
    .exact .inl<|cL h
    .rw[ci.mp h];calc .inr hz)
  have f3:Fr J (upd (upd J z<|.lst []) a.da<|.aM<|dput (s.uses.map bf.row) (.int (s.nodes.length:Nat))<|.ref z) (a.own<|grown s nd w d l s.uses) (a.own<|grown s nd w d l<|s.uses++[⟨s.nodes.length,z,[]⟩]):=by
   refine⟨λb hb hn=>(aC λe=>hb<|by rw[e];calc qh a _<|by(unfold cg.bU;simp)).trans<|aC λe=>hn<|by rw[e];calc hz,λb hb=>?_⟩
   .rw[rt] at hb|-;simp only[ca] at hb|-;rcases hb with h|h|h|h
    .exact .inl<|.inl h
    .exact .inl<|.inr<|.inl h
    .exact .inl<|.inr<|.inr<|.inl h
    .have h:b∈(s.uses++[(⟨s.nodes.length,z,[]⟩:bf)]).map bf.ad:=h;rw[cb,ca] at h;rcases h with h|h
     .exact .inl<|.inr<|.inr<|.inr h
     .rw[List.map_singleton,ci] at h;exact .inr<|by rw[show b=z from h];exact hz
  have X3:bN CH CB CU a _ (grown s nd w d l<|s.uses++[⟨s.nodes.length,z,[]⟩]):=X3;generalize upd (upd J z<|.lst []) a.da (.aM<|dput (s.uses.map bf.row) (.int (s.nodes.length:Nat))<|.ref z)=c6 at X3 f3|-;have f0:Fr O c6 (a.own s) (a.own<|grown s nd w d l<|s.uses++[⟨s.nodes.length,z,[]⟩]):=f1.trans<|f2.trans f3;have b6:(s.par++[s.par.length]).length<=1000:=by rw[bA,gG,G.pl];exact(aB 139312897265) h6
  calc aU<|gD (λ_=>rfl)<|eJ<|Ls (by rfl) (by rfl) (by rfl) (by rfl)<|gO (by tm_at"k") (by decide) W.mE.1 W.mE.2 ⟨rfl,gO (by tm_at"k") (by decide) W.set.1 W.set.2 ⟨rfl,ba<|gN (by rw[c0];rfl) (λ_=>rfl)<|oq ?_⟩⟩;lk;refine⟨_,rfl,mP (nd.kids.map λj=> .int (j:Nat)) (vA<|s.par++[s.par.length]) (by rfl) (by unfold small;rw[au];calc(aB 139033969905) N) (λcenv hc=>by tm_at"k") ?_ ?_⟩
  .refine λcenv d3 dd hc T hd hm=>ai (bb.mp hm) λj p=>?_;have hj:=p.1;have C:=p.2;clear p;clear hm;subst C;tm_at"m";calc cf (by rw[T _ (by rfl)];rfl)<|eF X3.at_ W.H.cls W.kQ (by decide+kernel) λg hg=>ba ?_;tm_at"c";lk;exact ot W.H W.U W.kX hg X3.at_ X3.un.at_ (Bp G.cH) (by show j<(s.par++[s.par.length]).length;have:=hv j hj;rw[bA,G.pl];calc(ax 1951602481) this) b6 ⟨rfl,rfl⟩
  lk;calc Dg.ints (nd.kids.map λj=>((root (s.par++[s.par.length]) j:Nat):Int)) (by rw[QB]) (by rw[au];calc(aB 138228663537) N) λks c7 b7=>?_;rw[au] at b7
  have c8:∀x∈ks,∃r:Nat,x=r/\r∈(s.uses++[(⟨s.nodes.length,z,[]⟩:bf)]).map bf.key:=λx Y=>by
   calc ai (bb.mp<|(c7 x).mp Y) λj p=>?_;have hj:=p.1;have C:=p.2;clear p;clear Y;subst C;have a8:j<s.par.length:=by rw[G.pl];exact hv j hj
   calc⟨_,rfl,?_⟩;rw[Fm G.cH j a8,cb,ca];calc ai (G.ur _ (by rw[<-G.pl];calc lN G.cH a8)<|qZ G.cH j a8) λu p=>?_;exact .inl<|p.2▸cL p.1
  have c9:((s.uses++[(⟨s.nodes.length,z,[]⟩:bf)]).map bf.key).Nodup:=by rw[cb];exact kg G.uk λh=>ai (bb.mp h) λu q=>absurd q.2<|hZ<|G.ul u q.1
  have a3:ks.length<=2:=aL b7 N;refine⟨_,rfl,forL (g:=λy=>PV.d<|.int y) (l:=ks) [ak "c"] (λdone ah=>∃us:List bf,bN CH CB CU a ah (grown s nd w d l us)/\us.map bf.key=(s.uses++[(⟨s.nodes.length,z,[]⟩:bf)]).map bf.key/\ (∀u∈us,u.xs.length<=2*(s.nodes.length*2^s.mg.length)+done.length/\∀x∈u.xs,x<s.nodes.length+1)/\Fr O ah (a.own s) (a.own<|grown s nd w d l us)) (bg ..) ⟨_,cx X3 rfl ?_ f0⟩ ?_ ?_⟩
  .intro u L;rcases ca.mp L with h|h
   .have:=G.uL u h;exact⟨this.1,λx Y=>tU<|this.2 x Y⟩
   .rw[ci.mp h];exact⟨cO _,λx Y=>by calc cX Y⟩
  .intro done y d4 ah d0 Q1 hd p ag d1;calc ai p λus C=>bV C λX' D hb f'=>?_;have a9:=ag.tr (x:=ak "self") rfl rfl;have hn:=ag.tr (x:=ak "n") rfl rfl
   ·
    calc ai (c8 y<|mid hd) λr p=>?_;have C:=p.1;have hr:=p.2;clear p;subst C;rw[<-D] at hr;calc ai (bb.mp hr) λu p=>?_;have L:=p.1;have C:=p.2;clear p;subst C;have a5:(us.map bf.key).Nodup:=by rw[D];exact c9
    calc aE X'.at_.ns λm σ p=>lI p λI h1 h2 h3 h4 h5 P h7 _=>?_;calc jL<|aU<|eG ?_;tm_at"m";lk;tm_at"c";calc⟨_,_,_,_,_,_,rfl,X'.at_.ob,I,P,rfl,W.H.cls,W.H.above,?_⟩;lk;calc pL X'.da rb qP (Kv a5 L)<|ij (X'.us u L) lR mY<|ba ?_;tm_at"c";lk;calc lF (X'.us u L) (by unfold small;rw[au];calc(ax 0x205f124314f51204f322ff5) (hb u L).1 (aL (ja<|nS hd) a3) G.gu) ?_;have f4:Fr ah (upd ah u.ad<|.lst<|(u.xs++[s.nodes.length]).map aY) (a.own<|grown s nd w d l us) (a.own<|grown s nd w d l us):=Fr.up (by rw[rt];calc cn _<|cn _<|cn _<|cL L);rw[show u.xs.map aY++[aY s.nodes.length]=(u.xs++[s.nodes.length]).map aY by rw[cb];rfl];have b8:(us.map<|bf.tell u.key s.nodes.length).map bf.ad=us.map bf.ad:=by rw[bg];exact gZ λv _=>ye
    refine cE<|d1 _ _ ⟨_,cx (X'.ZS a5 L (n:=s.nodes.length)) ?_ ?_ ?_⟩<|ag.set rfl
    .rw[<-D];show(us.map<|bf.tell u.key s.nodes.length).map bf.key=_;rw[bg];exact gZ λv _=>Nw
    .refine λv b9=>ai (bb.mp b9) λv0 p=>?_;have d2:=p.1;have C:=p.2;clear p;clear b9;subst C;have a1:=hb v0 d2;rw[bA];unfold bf.tell;split
     .refine⟨?_,λx Y=>?_⟩
      .show(v0.xs++[s.nodes.length]).length<=_;rw[bA];exact iv a1.1
      .rcases ca.mp Y with h|h
       .exact a1.2 x h
       .rw[ci.mp h];exact sO
     .exact⟨nf a1.1,a1.2⟩
    .have:a.own (grown s nd w d l<|us.map<|bf.tell u.key s.nodes.length)=a.own (grown s nd w d l us):=by
      rw[rt,rt];show a.bU++(a.bk.own++(a.un.own _++(us.map<|bf.tell u.key s.nodes.length).map bf.ad))=_;rw[b8];rfl
     show Fr _ _ _<|a.own<|grown s nd w d l<|us.map<|bf.tell u.key s.nodes.length;rw[this];exact f'.trans f4
  .intro ah d0 p ag;refine ai p λus C=>bV C λX' D hb f'=>?_
   have a9:=ag.tr (x:=ak "self") rfl rfl;have hn:=ag.tr (x:=ak "n") rfl rfl;have G':Good e (grown s nd w d l us):=G.more (by rw[X.un.ml]) h6 Z hv (by rw[D,cb];rfl) λu L=>⟨aL (hb u L).1<|oY a3 _,(hb u L).2⟩;have hN:(grown s nd w d l us).nodes.length=s.nodes.length+1:=by show(s.nodes++[nd]).length=_;simp
   calc aU<|eG ?_;tm_at"m";tm_at"c";calc eF X'.at_ W.H.cls W.FD (by decide+kernel) λg hg=>ba ?_;tm_at"A";lk;refine MJ W hg X' G' (by rw[hN];calc sO) he ?_ λs2 J S G2 a2 _ f2=>?_
   .rw[hN,PM];show s.known.length+s.waiting.length+1<=s.nodes.length+1+2*(s.nodes.length*2^s.mg.length+1*2^s.mg.length);exact(dU 0x2414f442f00fa03f48431603f07f2414fa5431) hN G.kz
   lk;tm_at"A";calc q s2 J s.nodes.length S G2 (by rw[a2,hN];calc sO) (by rw[a2,hN];calc Q8) (by rw[a2,hN];calc(aB 699)) (λm h=>by rw[a2];show m∈s.nodes++[nd];simpa using h)<|f'.trans f2
end
section
variable{c:Cx}{k:Nat}{V:Env}{O ah gx:al}{ρ:az}{CH CB CU:Addr}{a:cg}{s:Hp}
theorem Aa(X:c.mg x=some (.ref C))(U:jp c C)(hk:V.kindOf x=some .globalImplicit)(hd:(x==("__debug__":Str))=false)(he:eval (.Call (.Name x p) args [] g) V=(eval (.Name x p) V>>=λv=>nv g v [] (backTo g<|starEach args V) []))(hs:(starEach args V).all (λx=> !x.1)=true)(h:jz c k V ρ args O λl j=>aW c k (.ref C) l j Q):WE c k V ρ (.Call (.Name x p) args [] g) O Q:=AC he hs<|zI hk hd X ⟨_,rfl,.fn U.keep,h⟩
theorem KI(W:Wd c CH CB CU)(F:Fn c f<|bj (aK 20) 4)(X:bN CH CB CU a O s)(G:Good e s)(he:e<=1000)(r:s.nodes.length<=6)(j:pD x 0)(q:∀s' ah n,bN CH CB CU a ah s'->Good e s'->n<s'.nodes.length->s.nodes.length<=s'.nodes.length->s'.nodes.length<=s.nodes.length+1->(∀m,m∈s.nodes\/m=⟨x,[]⟩->m∈s'.nodes)->Fr O ah (a.own s) (a.own s')->Q (aY n) ah):aW c (k+1+1+1+1+1+1) (.ref f) [.ref a.h,.d (.tup [.str x])] O Q:=by have p:=W.tup;calc cY F rfl λV l=>aU<|eX ?_;tm_at"m";lk;calc eF X.at_ W.H.cls W.tz (by decide+kernel) λg hg=>?_;lk;calc eY (eT) (eV) rfl ?_;lk;calc gN (by rw[l];rfl) (λZ=>rfl)<|oq ?_;lk;calc il (lb rfl) (lb rfl)<|⟨_,rfl,mP [] (λd=>d) (by rfl) (lb rfl) (λcenv hc=>by tm_at"k") (λZ Z d Z Z Z hm=>by calc cX hm) ?_⟩;lk;calc pX (lb rfl) ?_;lk;calc Lb W hg (nd:=⟨x,[]⟩) X G he r j (λZ h=>by calc cX h) q
theorem Good.mono(G:Good e s)(h:e<=g):Good g s:={G with el:=aL G.el<|(ax 155512410705) h}
theorem VS(W:Wd c CH CB CU)(F:Fn c f<|bj (aK 20) 8)(X:bN CH CB CU a O s)(G:Good e s)(hi:i<s.nodes.length)(hj:j<s.nodes.length)(he:e<=1000)(q:∀s' ah v,bN CH CB CU a ah s'->Good (e+1) s'->s'.nodes=s.nodes->Fr O ah (a.own s) (a.own s')->Q v ah):aW c (k+1+1+1+1) (.ref f) [.ref a.h,aY i,aY j,.d r] O Q:=by calc cY F rfl λV z=>aU<|eX ?_;tm_at"m";lk;calc eF X.at_ W.H.cls W.Dd (by decide+kernel) λg hg=>?_;lk;calc Lm W hg X G hi hj he (λah l Z C m p=>q _ ah _ m ({G with el:=by show l.length<=e+1+s.mg.length;have:=G.el;calc(aV 0x245c160df12453a) C this}) rfl p) λs' ah m D I Z p=>q s' ah _ m (D.mono<|Q8) I p
structure lO(gx O:al)(o:List Addr):Prop where
 fr:∀b,b∉o->O b=gx b
 nn:∀b∈o,gx b=none
 nd:o.Nodup
 so:∀b∈o,O b≠none
theorem lO.add(X:lO gx O o)(h:O x=none):lO gx (upd O x m) (x::o):=by
 have g:x∉o:=λhm=>X.so x hm h;refine⟨λb hb=>?_,λb hb=>?_,iM.mpr ⟨g,X.nd⟩,λb hb=>?_⟩
 .rw[dD,not_or] at hb;rw[aC hb.1];exact X.fr b hb.2
 .rcases dD.mp hb with rfl|h'
  .rw[<-X.fr b g];exact h
  .exact X.nn b h'
 .rcases dD.mp hb with rfl|h'
  .rw[bo];simp
  .unfold upd;split
   .exact sn
   .exact X.so b h'
theorem lO.set(X:lO gx O o)(h:x∈o):lO gx (upd O x m) o:=by
 calc⟨λb hb=>(aC λe:b=x=>hb<|e▸h).trans<|X.fr b hb,X.nn,X.nd,λb hb=>?_⟩;unfold upd;split
 .exact sn
 .exact X.so b hb
theorem lO.more(X:lO gx O o)(h0:∀b∈p,O b=none)(h1:∀b,b∉p->ah b=O b)(j:p.Nodup)(l:∀b∈p,ah b≠none):lO gx ah (p++o):=by
 have g:∀x∈p,x∉o:=λx hp hm=>X.so x hm<|h0 x hp;refine⟨λb hb=>?_,λb hb=>?_,rY.mpr<|aR j X.nd λx hp y hy e=>g x hp<|e▸hy,λb hb=>?_⟩
 .rw[ca,not_or] at hb;rw[h1 b hb.1];exact X.fr b hb.2
 .rcases ca.mp hb with h|h
  .rw[<-X.fr b (g b h)];exact h0 b h
  .exact X.nn b h
 .rcases ca.mp hb with h|h
  .exact l b h
  .rw[h1 b λhp=>g b hp h];calc X.so b h
theorem jO.has{a:lp}(X:jO C a O nodes ws ds):∀b∈a.own,O b≠none:=λb hm h=>Er h<|X.some hm
noncomputable def Bq:Hp:=⟨[],[],[],[],[],[],[],[],[],[],[],[]⟩
theorem good0:Good 0 Bq where
 pl:=rfl
 nz:=by decide
 ok:=λZ h=>by exact cX h
 lt:=λZ Z h=>by exact bp h
 cH:=λZ h=>by cases h
 jK:=λZ h=>by exact cX h
 lL:=λZ Z h=>by exact bp h
 ou:=rfl
 el:=by decide
 fl:=by decide
 kv:=λZ h=>by exact cX h
 kz:=by decide
 uk:=hX
 ur:=λZ h=>by cases h
 uz:=by decide
 ul:=λZ h=>by exact cX h
 uL:=λZ h=>by exact cX h
 wL:=λZ h=>by calc cX h
theorem SU{X Y U B:List Addr}:(X++(U++(B++Y))).Perm ((Y++X.reverse)++(B++(U++[]))):=by rw[ea];calc oW.trans ?_;rw[eK];calc oW.trans ?_;rw[eK B,<-eK _ B];calc Gx U<|oW.trans<|Gx B<|wu Y (GR X).symm
theorem TO(W:Wd c CH CB CU)(gB:c.mg (ak "Bank")=some (.ref CB))(gU:c.mg (ak "Unions")=some (.ref CU))(hI:iY c CH (ak "__init__") fI)(F:Fn c fI<|bj (aK 20) 0)(hB:iY c CB (ak "__init__") fB)(FB:Fn c fB<|bj (aK 11) 0)(hU:iY c CU (ak "__init__") fU)(FU:Fn c fU<|bj (aK 18) 0)(q:∀(a:cg) ah,bN CH CB CU a ah Bq->Fr O ah [] (a.own Bq)->Q (.ref a.h) ah):aW c (k+1+1+1+1) (.ref CH) [] O Q:=by
 calc kP.toT<|call_cls W.H.cls hI λh dx hh d9 D=>?_;have B0:lO O (upd (upd O dx<|.ns 0 λ_=>none) h<|.inst CH dx) [h,dx]:=by have B1:lO O O []:=⟨λ_ _=>rfl,λ_ h=>(cX h),hX,λ_ h=>(cX h)⟩;exact(B1.add d9).add<|(aC D).trans hh
 have j:upd (upd O dx<|.ns 0 λ_=>none) h (.inst CH dx) h=some (.inst CH dx):=bo;have l:upd (upd O dx<|.ns 0 λ_=>none) h (.inst CH dx) dx=some (.ns 0 λ_=>none):=(aC<|cI D).trans bo;generalize upd (upd O dx<|.ns 0 λ_=>none) h (.inst CH dx)=f6 at B0 j l;calc Bb F rfl λV f7=>aU<|cz<|Aa gB W.B.cls (by tm_at"k") (by decide) (by rfl) (by rfl) ?_;lk;calc TC W.B hB FB λr b2 Y1 n1 f1=>?_;have mh:h∉r.own:=λhm=>by have:=n1 h hm;rw[j] at this;exact cU this
 have md:dx∉r.own:=λhm=>by have:=n1 dx hm;rw[l] at this;exact cU this
 have B1:=B0.more n1 f1 Y1.nd Y1.has;calc jg ?_;lk;calc⟨h,CH,dx,_,_,rfl,(f1 h mh).trans j,(f1 dx md).trans l,vM,W.H.cls,W.H.vG,?_⟩;have B2:=B1.set (x:=dx) (m:= .ns (0+1)<|aZ (λ_=>none) (ak "bank")<|.ref r.b)<|.tail _<|.tail _<|.tail _<|.tail _<|.tail _<|.tail _<|.tail _<|.head _;have T:=(aC (m:= .ns (0+1)<|aZ (λ_=>none) (ak "bank")<|.ref r.b) D).trans<|(f1 h mh).trans j;have b3:=bo (O:=b2) (a:=dx) (m:= .ns (0+1)<|aZ (λ_=>none) (ak "bank")<|.ref r.b);have Y2:=Y1.same (ah:=upd b2 dx<|.ns (0+1)<|aZ (λ_=>none) (ak "bank")<|.ref r.b) λb hb=>aC λe=>md<|e▸hb;generalize upd b2 dx (.ns (0+1)<|aZ (λ_=>none) (ak "bank")<|.ref r.b)=f8 at B2 T b3 Y2|-;calc aU<|cz<|Aa gU W.U.cls (by tm_at"k") (by decide) (by rfl) (by rfl) ?_;lk;calc TJ W.U hU FU λC I Z3 n3 f3=>?_;have nh:h∉C.own []:=λhm=>by have:=n3 h hm;rw[T] at this;exact cU this
 have nd:dx∉C.own []:=λhm=>by have:=n3 dx hm;rw[b3] at this;exact cU this
 have Y3:=Y2.same (ah:=I) λb hb=>f3 b λhm=>Y2.has b hb<|n3 b hm;have B3:=B2.more n3 f3 Z3.nd λb hb e=>by calc ai (Z3.some hb) λm h'=>?_;rw[h'] at e;exact cU e
 calc jg ?_;lk;calc⟨h,CH,dx,_,_,rfl,(f3 h nh).trans T,(f3 dx nd).trans b3,(dL 34010254),W.H.cls,W.H.tj,?_⟩;generalize b9:aZ (aZ (λ_=>none) (ak "bank")<|.ref r.b) (ak "unions") (.ref C.u)=p;have l:dx∈C.own []++(r.own++[h,dx]):=cn _<|cn _<|.tail _<|.head _;have j:h∈C.own []++(r.own++[h,dx]):=cn _<|cn _<|.head _;have B4:=B3.set (x:=dx) (m:= .ns (0+1+1) p) l;have J:=(aC (m:= .ns (0+1+1) p) D).trans<|(f3 h nh).trans T;have c0:=bo (O:=I) (a:=dx) (m:= .ns (0+1+1) p);have Y4:=Y3.same (ah:=upd I dx<|.ns (0+1+1) p) λb hb=>aC λe=>md<|e▸hb;have Z4:=Z3.same (ah:=upd I dx<|.ns (0+1+1) p) λb hb=>aC λe=>nd<|e▸hb;generalize upd I dx (.ns (0+1+1) p)=g at B4 J c0 Y4 Z4|-
 have step:∀{g:al} {o:List Addr} {x:Addr} {m m':MO},lO O g o->dx∈o->h∈o->g x=none->g h=some (.inst CH dx)->
   lO O (upd (upd g x m) dx m') (x::o)/\upd g x m h=some (.inst CH dx)/\upd g x m dx=g dx/\upd (upd g x m) dx m' h=some (.inst CH dx)/\upd (upd g x m) dx m' x=some m/\∀b∈o,b≠dx->upd (upd g x m) dx m' b=g b:=by
  intro g o x m m' B c1 e0 hx J
  have xo:x∉o:=λhm=>B.so x hm hx
  have c2:h≠x:=λe=>xo<|e▸e0
  have c3:dx≠x:=λe=>xo<|e▸c1
  exact tG ((B.add hx).set<|dw _ c1) ((aC c2).trans J) (aC c3) ((aC D).trans<|(aC c2).trans J) ((aC<|cI c3).trans bo) λb hb e8=>(aC e8).trans<|aC λe=>xo<|e▸hb
 calc aU<|cz<|iV ?_;lk;calc⟨lb rfl,λle e9=>gS (step (m:= .lst []) (m':= .ns (0+1+1+1)<|aZ p (ak "edges")<|.ref le) B4 l j e9 J) λB6 Z p2 c4 v6 k6=>jg ?_⟩;lk;calc⟨h,CH,dx,_,_,rfl,Z,p2.trans c0,(dL 8706622606),W.H.cls,W.H.jk,?_⟩;have b4:=bo (O:=upd g le<|.lst []) (a:=dx) (m:= .ns (0+1+1+1)<|aZ p (ak "edges")<|.ref le);generalize upd (upd g le<|.lst []) dx (.ns (0+1+1+1)<|aZ p (ak "edges")<|.ref le)=b5 at B6 c4 b4 v6 k6|-;calc aU<|cz<|iV ?_;lk;calc⟨lb rfl,λlf f0=>?_⟩;generalize c5:aZ p (ak "edges") (.ref le)=a0 at b4;calc gS (step (m:= .lst []) (m':= .ns (0+1+1+1+1)<|aZ a0 (ak "forest")<|.ref lf) B6 (.tail _ l) (.tail _ j) f0 c4) λB8 Z p2 c6 v8 k8=>jg ?_;lk;calc⟨h,CH,dx,_,_,rfl,Z,p2.trans b4,(dL 2228895384718),W.H.cls,W.H.lj,?_⟩;have b6:=bo (O:=upd b5 lf<|.lst []) (a:=dx) (m:= .ns (0+1+1+1+1)<|aZ a0 (ak "forest")<|.ref lf);generalize upd (upd b5 lf<|.lst []) dx (.ns (0+1+1+1+1)<|aZ a0 (ak "forest")<|.ref lf)=b7 at B8 c6 b6 v8 k8|-;calc aU<|cz<|lG λdk f2=>?_;generalize c7:aZ a0 (ak "forest") (.ref lf)=a1 at b6;calc gS (step (m:= .aM []) (m':= .ns (0+1+1+1+1+1)<|aZ a1 (ak "known")<|.ref dk) B8 (.tail _<|.tail _ l) (.tail _<|.tail _ j) f2 c6) λc8 Z p2 a6 c9 d0=>jg ?_;lk;calc⟨h,CH,dx,_,_,rfl,Z,p2.trans b6,(dL 570597218485390),W.H.cls,W.H.known,?_⟩;have L:=bo (O:=upd b7 dk<|.aM []) (a:=dx) (m:= .ns (0+1+1+1+1+1)<|aZ a1 (ak "known")<|.ref dk);generalize upd (upd b7 dk<|.aM []) dx (.ns (0+1+1+1+1+1)<|aZ a1 (ak "known")<|.ref dk)=N at c8 a6 L c9 d0|-;calc aU<|cz<|lG λda f4=>?_;generalize d1:aZ a1 (ak "known") (.ref dk)=a2 at L;calc gS (step (m:= .aM []) (m':= .ns (0+1+1+1+1+1+1)<|aZ a2 (ak "above")<|.ref da) c8 (.tail _<|.tail _<|.tail _ l) (.tail _<|.tail _<|.tail _ j) f4 a6) λd2 Z p2 a7 d3 d4=>jg ?_;lk;calc⟨h,CH,dx,_,_,rfl,Z,p2.trans L,(dL 0x206f4848484848e),W.H.cls,W.H.above,?_⟩;have P:=bo (O:=upd N da<|.aM []) (a:=dx) (m:= .ns (0+1+1+1+1+1+1)<|aZ a2 (ak "above")<|.ref da);generalize upd (upd N da<|.aM []) dx (.ns (0+1+1+1+1+1+1)<|aZ a2 (ak "above")<|.ref da)=a8 at d2 a7 P d3 d4|-;calc aU<|cz<|iV ?_;lk;calc⟨lb rfl,λlw f5=>?_⟩;generalize d5:aZ a2 (ak "above") (.ref da)=a3 at P;calc gS (step (m:= .lst []) (m':= .ns (0+1+1+1+1+1+1+1)<|aZ a3 (ak "waiting")<|.ref lw) d2 (.tail _<|.tail _<|.tail _<|.tail _ l) (.tail _<|.tail _<|.tail _<|.tail _ j) f5 a7) λS Z p2 a9 d6 b8=>jg ?_;lk;calc⟨h,CH,dx,_,_,rfl,Z,p2.trans P,(dL 0x206f484848484848e),W.H.cls,W.H.waiting,?_⟩;have b0:=bo (O:=upd a8 lw<|.lst []) (a:=dx) (m:= .ns (0+1+1+1+1+1+1+1)<|aZ a3 (ak "waiting")<|.ref lw);generalize upd (upd a8 lw<|.lst []) dx (.ns (0+1+1+1+1+1+1+1)<|aZ a3 (ak "waiting")<|.ref lw)=z at S a9 b0 d6 b8|-;have b1:=S.nd;have a5:∀x∈[lw,da,dk,lf,le],x≠dx:=λx hx=>(rY.mp<|show([lw,da,dk,lf,le]++(C.own []++(r.own++[h,dx]))).Nodup from b1).2.2 x hx dx<|cn _<|cn _<|.tail _<|.head _;have d7:∀b∈(dk::lf::le::(C.own []++(r.own++[h,dx]))),b≠dx->z b=N b:=λb hb hd=>(b8 b (dw _ hb) hd).trans<|d4 b hb hd;have t8:∀b∈(lf::le::(C.own []++(r.own++[h,dx]))),b≠dx->z b=b7 b:=λb hb hd=>(d7 b (dw _ hb) hd).trans<|d0 b hb hd;have t6:∀b∈(le::(C.own []++(r.own++[h,dx]))),b≠dx->z b=b5 b:=λb hb hd=>(t8 b (dw _ hb) hd).trans<|k8 b hb hd;have t4:∀b∈(C.own []++(r.own++[h,dx])),b≠dx->z b=g b:=λb hb hd=>(t6 b (dw _ hb) hd).trans<|k6 b hb hd;have hs:aZ a3 (ak "waiting") (.ref lw)=aZ (aZ (aZ (aZ (aZ (aZ (aZ (λ_=>none) (ak "bank")<|.ref r.b) (ak "unions")<|.ref C.u) (ak "edges")<|.ref le) (ak "forest")<|.ref lf) (ak "known")<|.ref dk) (ak "above")<|.ref da) (ak "waiting") (.ref lw):=by rw[<-d5,<-d1,<-c7,<-c5,<-b9]
 have d8:=SU (X:=[lw,da,dk,lf,le]) (Y:=[h,dx]) (U:=C.own []) (B:=r.own);lk;refine⟨rfl,q {h:=h,dx:=dx,le:=le,lf:=lf,dk:=dk,da:=da,lw:=lw,bk:=r,un:=C} z {at_:=⟨a9,_,_,b0,congrFun hs _,congrFun hs _,congrFun hs _,congrFun hs _,congrFun hs _,congrFun hs _,congrFun hs _,λx e1 e2 e3 e4 e5 e6 e7=>(congrFun hs x).trans<|(if_neg e7).trans<|(if_neg e6).trans<|(if_neg e5).trans<|(if_neg e4).trans<|(if_neg e3).trans<|(if_neg e2).trans<|if_neg e1⟩,bk:=Y4.same λb hb=>t4 b (by simp[hb]) λe=>md<|e▸hb,un:=Z4.same λb hb=>t4 b (dh _<|by assumption) λe=>nd<|e▸hb,le:=((t6 le (.head _)<|a5 le<|.tail _<|.tail _<|.tail _<|.tail _<|.head _).trans v6),lf:=((t8 lf (.head _)<|a5 lf<|.tail _<|.tail _<|.tail _<|.head _).trans v8),dk:=((d7 dk (.head _)<|a5 dk<|.tail _<|.tail _<|.head _).trans c9),da:=((b8 da (.head _)<|a5 da<|.tail _<|.head _).trans d3),lw:=d6,us:=λ_ h=>(cX h),nd:= ?_} ?_⟩
 .rw[rt];exact d8.nodup_iff.mp b1
 .refine⟨λb _ hn=>S.fr b λhm=>hn<|S.nn b hm,λb hb=> .inr<|S.nn b ?_⟩;rw[rt] at hb;calc d8.mem_iff.mpr hb
end
section
variable{c:Cx}{k:Nat}{V:Env}{O ah:al}{ρ:az}
noncomputable def zR(m:MO)(d:Dt):Prop:=(∃ds:List Dt,m= .lst (ds.map .d)/\d= .lst ds)\/(∃l:List<|Dt×Dt,m= .aM (l.map λe=>(e.1,.d e.2))/\d= .aM (l.map (·.1)) (l.map (·.2)))
theorem Sat.freeze(S:Sat c B O R s)(g:O l=some m)(hf:zR m d):∃B',B.le B'/\Sat c B' (del O l) R s/\RV c.w B' (.d d) (.ref l):=by
 rcases hf with⟨ds,rfl,rfl⟩|⟨e,rfl,rfl⟩
 .refine aE (S.lst g) λitems ep h=>aw h λp j=>?_;have le:=fW (o:={cls:= .type "list",data:= .seq items ep})<|S.tu g;exact⟨_,le,S.rG (S.tu g) (S.xV g) p,l,_,items,ep,rfl,eE ..,rfl,rfl,aT.mono le<|bC.uN j⟩
 .refine aE (S.aM g) λes ep h=>aN h λp D j=>?_
  have le:=fW (o:={cls:= .type "dict",data:= .dict es ep})<|S.tu g;rw[bg] at D j;have q:bC c.w B ((e.map (·.2)).map .d) (es.toList.map (·.val)):=by rw[bg];exact j
  calc⟨_,le,S.rG (S.tu g) (S.xV g) p,l,_,es,ep,rfl,by have:=S.vr g;simpa using this,eE ..,⟨rfl,rfl,rfl⟩,rfl,aT.mono le D.a,aT.mono le<|bC.uN q,D.b,D.c,D.d,D.e⟩
inductive Sh (Q:PV->al->Prop) (p:PV) (O:al):Prop
 |mk (l:Addr) (m:MO) (d:Dt) (e:p= .ref l) (hl:O l=some m) (hf:zR m d) (q:Q (.d d)<|del O l)
theorem Br(h:WE c k V ρ e O<|Sh Q):WE c k V ρ e O Q:= .mk λA B R s r S L=>by calc aS (h.1 A B R s r S L) (λv s₁ h₁=>?_) λZ Z x=>x;obtain⟨I,D,p,l₁,g,j,l,m,d,rfl,J,hf,q⟩:=h₁;calc ai (g.freeze J hf) λz H=>aN H λle C N=>⟨z,_,_,Look.le_trans l₁ le,C,by rw[show v= .ref l from j];calc N,q⟩
theorem Loc.turn(L:Loc c V ρ B R)(le:B.le B')(l:ρ x=some g)(h:∀v,RV c.w B g v->RV c.w B' p v):Loc c V (aZ ρ x p) B' R:=by
 have key:∀(y:Str) (v:Option Value),fR c.w B (ρ y) v->fR c.w B' (aZ ρ x p y) v:=λy v j=>by
  unfold aZ;split
  .rename_i e
   subst e;rw[l] at j;cases v with
   |none=>calc j.elim
   |some v=>exact h v j
  .exact j.mono le
 calc L.gen (λZ Z Z e=>e) key
theorem ES(D:ρ x=some (.ref l))(H:O l=some m)(hf:zR m d)(h:WB c k V (aZ ρ x<|.d d) p (del O l) Q):WB c k V ρ p O Q:= .mk λA B R s r S L=>by calc ai (S.freeze H hf) λg z=>aN z λle j I=>aS (h.1 A g R s r j<|L.turn le D λv J=>by rw[show v= .ref l from J];calc I) (λ_ _ N=>?_) λ_ _ x=>x;obtain⟨B',ah,P,C,fl,T,U,X,Y,Z,q⟩:=N;calc⟨B',ah,P,C,fl,Look.le_trans le T,U,X,Y,Z,q⟩
theorem yk(h:O a=none):del (upd O a m) a=O:=by
 funext b;unfold del upd;split
 .rename_i e;rw[e,h]
 .rfl
theorem An{scope:eb}{P:List Dt->al->Prop}{α:Type}(l:List α)(g:α->PV)(f:α->Dt)(L:(iW j).all (λx=>scope.names.lookup x !=some .free)=true)(N:small l.length)(h:∀cenv z d,cenv.scope=fP scope V->fS scope ρ z->d∈l->cW c k cenv z j (g d) O λr m=>fS scope ρ m/\WE c k cenv m C r λp ah=>p= .d (f d)/\ah=O)(q:P (l.map f) O):kG c k V ρ scope (.ListComp C [⟨j,H,[],0⟩] scope S) j (l.map g) O P:=xi L (λd=>d.map f) (λZ ah=>ah=O) rfl rfl rfl (λcenv z done d I ah hc T hd D=>⟨by rw[au];calc aL (ja<|nS hd) N,by rw[D];calc(h cenv z d hc T<|mid hd).mono λr m hh=>⟨hh.1,vR<|cB rfl<|hh.2.mono λp J h=>⟨f d,h.1,by rw[cb];rfl,h.2⟩⟩⟩) λah D=>D▸q
mutual
noncomputable def Tm.jR:Tm->List (List Nat×Tm)
 | .nd s l=>([],.nd s l)::Tm.iO 0 l
noncomputable def Tm.iO:Nat->List Tm->List (List Nat×Tm)
 |_,[]=>[]
 |i,t::g=>(t.jR.map λe=>(i::e.1,e.2))++Tm.iO (i+1) g
end
theorem Tm.MS:(∀t:Tm,t.jR.map (·.2)=t.rows)/\∀(l:List Tm) (i:Nat),(Tm.iO i l).map (·.2)=Tm.bx l:=Tm.ind (P:=λt=>t.jR.map (·.2)=t.rows) (Q:=λl=>∀i,(Tm.iO i l).map (·.2)=Tm.bx l) (λs l g=>congrArg (_::·)<|g 0) (λZ=>rfl) λt h h1 j i=>(cb ..).trans (by rw[j (i+1),bg];calc congrArg (·++Tm.bx h) h1)
theorem Tm.EQ(t:Tm):t.jR.map (·.2)=t.rows:=Tm.MS.1 t
theorem Tm.Vh(i:Nat)(l:List Tm):(Tm.iO i l).map (·.2)=Tm.bx l:=Tm.MS.2 l i
theorem Tm.Yw:∀(a b:List Tm) (i:Nat),Tm.iO i (a++b)=Tm.iO i a++Tm.iO (i+a.length) b:=by
 intro g;induction g with
 |nil=>
  intro b i;rfl
 |cons t a h=>
  intro b i;show(t.jR.map λe=>(i::e.1,e.2))++Tm.iO (i+1) (a++b)=((t.jR.map λe=>(i::e.1,e.2))++Tm.iO (i+1) a)++Tm.iO (i+(a.length+1)) b;rw[h b,eK,show i+1+a.length=i+(a.length+1) from(aq 105649211)]
noncomputable def nA(e:List Nat×Tm):Dt:= .tup [.tup (e.1.map λi=> .int (i:Nat)),e.2.dt]
theorem Ub:∀(l:List Tm) (i:Nat),pairs i (l.map Tm.dt)=(l.mapIdx λj t=>PV.d<|.tup [.int ((i+j:Nat):Int),t.dt]):=by
 intro g;induction g with
 |nil=>
  calc λi=>rfl
 |cons t l h=>
  intro i;rw[OQ];calc congrArg (_::·)<|(h<|i+1).trans ?_;apply yO;intro j;rw[yK,yK];rw[show i+1+j=i+(j+1) from(aq 105649211)]
theorem Tm.ZC:(∀t:Tm,∀e∈t.jR,e.1.length<=t.dZ)/\∀(l:List Tm) (i:Nat),∀e∈Tm.iO i l,e.1.length<=Tm.tD l+1:=Tm.ind (P:=λt=>∀e∈t.jR,e.1.length<=t.dZ) (Q:=λl=>∀i,∀e∈Tm.iO i l,e.1.length<=Tm.tD l+1) (λs l g=>fa (cO _)<|g 0) (λZ=>dF) λt p h1 j i e h=>(ca.mp h).elim (λh=>ai (bb.mp h) λm q=>q.2▸iv (aL (h1 m q.1)<|Hn ..)) λh=>aL (j (i+1) e h)<|iv<|Hb ..
theorem Tm.Xr(t:Tm)(e:List Nat×Tm)(h:e∈t.jR):e.1.length<=t.dZ:=Tm.ZC.1 t e h
theorem UN(G:Glob c (ak "parts")<|aK 8)(C:fJ c "enumerate"):∀(n:Nat) (t:Tm) {k:Nat} {f:Addr} {O:al} {Q:PV->al->Prop},Fn c f (aK 8)->t.dZ<=n->n<=1000->t.rows.length<=1000->Q (.d<|.lst<|t.jR.map nA) O->aW c (k+n+1) (.ref f) [.d t.dt] O Q:=by
 intro X;induction X with
 |zero=>
  intro Y;cases Y with
  |nd s l=>
   intro k f O Q F S hz N q;calc absurd S<|gm _
 |succ n ih=>
  intro Z;cases Z with
  |nd s l=>
   intro k f O Q F S hz N q;rw[Tm.vQ] at S;rw[Tm.jJ,bP] at N;calc cY F rfl λV a0=>aU<|cz<|iV<|ba<|cT<|ba<|cT ?_;lk;calc⟨lb rfl,.inl ⟨[],rfl,?_⟩⟩;lk;calc⟨lb rfl,.inl ⟨[.tup [],(Tm.nd s l).dt],rfl,?_⟩⟩;lk;calc⟨lb rfl,λa ha=>?_⟩;lk;calc QQ (λ_=>rfl)<|mV (by rfl) (by rfl)<|gO (by tm_at"k") (by decide) C.1 C.2 ⟨_,rfl,.ty,?_⟩;lk;rw[Tm.nR];calc il (lb rfl) (by unfold small;rw[bP,Tm.vV,au];calc(aq 569526092546609) N<|Tm.sZ l)<|iT ?_;rw[show List.drop 1 (Dt.str s::Tm.kM l)=l.map Tm.dt by rw[Tm.vV];rfl];calc Sl ?_;rw[Ub];refine⟨λxs ah H=>H (ak "found")=some (.ref a)/\∃done g:List Tm,l=done++g/\xs=(g.mapIdx λj t=>PV.d<|.tup [.int ((done.length+j:Nat):Int),t.dt])/\ah=upd O a (.lst<|(([],Tm.nd s l)::Tm.iO 0 done).map λe=>PV.d<|nA e),⟨rfl,bv ([]) l<|aR rfl rfl ?_⟩,?_,?_⟩
   .rfl
   .intro x xs ah H h;calc aw h λhf p=>aE p λdone g r=>aN r λP D I=>?_;clear p r h;subst I
    cases g with
    |nil=>calc rq D
    |cons t g=>
     rw[OQ] at D;calc aw (dN D) λh p=>?_;subst h;clear D;subst p;have hm:t∈l:=by rw[P];simp
     have z:(Tm.bx l).length=(Tm.bx done).length+(t.rows.length+(Tm.bx g).length):=by rw[P,Tm.oN,bA,Tm.iP,bA]
     have J:t.jR.length=t.rows.length:=by rw[<-Tm.EQ t,au]
     have L:(Tm.iO 0 done).length=(Tm.bx done).length:=by rw[<-Tm.Vh 0 done,au]
     have U:=bo (O:=O) (a:=a) (m:= .lst<|(([],Tm.nd s l)::Tm.iO 0 done).map λe=>PV.d<|nA e);tm_at"2";calc aU<|eG ?_;tm_at"m";tm_at"A";calc ij U rT BJ<|ba<|gN (by rw[a0];rfl) (λ_=>rfl)<|eJ ?_;calc eh G λ_ _=>?_;lk;calc ih t ‹_› (by have:=Tm.qX hm;calc sy S this) ((aB 139302405883) hz) ((dU 0x206f1206fc644a1536100f6507f) N z J L)<|⟨_,rfl,?_⟩;rw[bg];refine An t.jR (PV.d∘nA) (λe=>nA (done.length::e.1,e.2)) (by rfl) (by unfold small;calc(dU 0x205f1206fc64400fa536a16507f) N z J L) (λcenv a1 e hc T hm'=>?_) ?_
     .show cW _ _ _ _ _ (.d<|nA e) _ _;unfold nA;tm_at"2";calc⟨(T.aZ (by rfl) _).aZ (by rfl) _,cT<|ba<|iD<|cT<|ba<|cf (by unfold aZ;rw[if_neg (by decide),if_neg<|by decide,T _ (by rfl)];rfl)<|iT ⟨lb rfl,.inl ⟨[.int (done.length:Nat)],rfl,?_⟩⟩⟩;lk;calc qi (by unfold small;rw[au,gG];calc(aV 0x205f418203fc206f03f2a123a) S hz (Tm.Xr t e hm')<|Tm.qX hm) ?_;lk;exact⟨lb rfl,.inl ⟨[.tup ((done.length::e.1).map λi=> .int (i:Nat)),e.2.dt],aR rfl rfl rfl⟩⟩
     lk;refine IM U (by unfold small;simp only[au,bP];calc(dU 0x205f43b206f03f64407f00fa5600f36a1) N z J L)<|cE ⟨hf,done++[t],g,by rw[P];simp,?_,?_⟩
     .rw[bA,gG];congr 1;funext j t';rw[show done.length+1+j=done.length+(j+1) from(aq 105649211)]
     .rw[yh,Tm.Yw,np,show Tm.iO done.length [t]=t.jR.map λe=>(done.length::e.1,e.2) from ea _,<-R5,cb,bg,bg];rfl
   .intro ah H h;calc aw h λhf p=>aE p λdone g r=>aN r λP D I=>?_;clear p r h;subst I
    have:g=[]:=by
     cases g with
     |nil=>rfl
     |cons t g=>rw[OQ] at D;exact nE D
    subst this;rw[ea] at P;clear D;subst P;calc aU<|eX<|Br ?_;tm_at"A";calc⟨a,_,_,rfl,bo,.inl ⟨(([],Tm.nd s l)::Tm.iO 0 l).map nA,by rw[bg];rfl,rfl⟩,?_⟩;rw[yk ha];calc q
noncomputable def gT(s:Str):Prop:=gp s=true/\1<=s.cps.size/\s.cps.size<=1000
noncomputable def cN(t:Tm):Prop:=t.rows.length<=5/\∀r∈t.rows,gT r.str
theorem uQ(t:Tm):t∈t.rows:=by cases t with|nd s l=>calc .head _
theorem iK(t:Tm):1<=t.rows.length:=GB<|uQ t
theorem KH{t:Tm}(h:t∈l):t.rows.Sublist (Tm.bx l):=by
 induction l with
 |nil=>calc cX h
 |cons a l g=>calc(dD.mp h).elim (λe=>e▸J1 ..) λh=>(g h).trans<|H3 ..
theorem LG{t r:Tm}(h:t∈l)(g:r∈t.rows):r∈Tm.bx l:=(KH h).subset g
theorem MP{t:Tm}(h:t∈l):t.rows.length<=(Tm.bx l).length:=(KH h).length_le
theorem yf(t:Tm):t.rows=t::Tm.bx t.kids:=by cases t with|nd s l=>rfl
theorem Ly{t u r:Tm}(h:u∈t.kids)(g:r∈u.rows):r∈t.rows:=yf t▸ .tail _ (LG h g)
theorem cN.len(h:cN t):(Tm.bx t.kids).length+1<=5:=aL (fO (congrArg Cw<|yf t).symm) h.1
theorem cN.kt{t u:Tm}(h:cN t)(g:u∈t.kids):cN u:=⟨aL (MP g)<|ja h.len,λr j=>h.2 r<|Ly g j⟩
theorem cN.str(h:cN t):gT t.str:=h.2 t<|uQ t
theorem cN.kids(h:cN t):t.kids.length<=5:=aL (Tm.sZ t.kids)<|ja h.len
theorem Tm.tc(t:Tm):t.dZ<=t.rows.length:=(Tm.ind (P:=λt=>t.dZ<=t.rows.length) (Q:=λl=>Tm.tD l<=(Tm.bx l).length) (λZ Z g=>iv g) (cO _) λt j h k=>aL (qA.mpr ⟨K0 h,gY k⟩)<|fO bA.symm).1 t
theorem Tm.Bj(t:Tm):t.dt.depth<=t.dZ:=(Tm.ind (P:=λt=>t.dt.depth<=t.dZ) (Q:=λl=>Dt.dG (Tm.kM l)<=Tm.tD l) (λZ Z g=>iv<|qA.mpr ⟨cO _,g⟩) (cO _) λZ Z h k=>qA.mpr ⟨aL h<|Hn ..,aL k<|Hb ..⟩).1 t
theorem jx(h:a=true)(k:b=true):(a&&b)=true:=iu.mpr ⟨h,k⟩
theorem Tm.yC(t:Tm):(∀r∈t.rows,gp r.str=true)->t.dt.flat=true/\t.dt.noBool=true/\t.dt.key=true:=(Tm.ind (P:=λt=>(∀r∈t.rows,gp r.str=true)->t.dt.flat=true/\t.dt.noBool=true/\t.dt.key=true) (Q:=λl=>(∀r∈Tm.bx l,gp r.str=true)->Dt.fA (Tm.kM l)=true/\Dt.kB (Tm.kM l)=true/\Dt.keys (Tm.kM l)=true) (λs l p h=>aN (p λr g=>h r<|.tail _ g) λh1 j m=>aR (jx (h _<|.head _) h1) (jx rfl j)<|jx (h _<|.head _) m) (λZ=>aR rfl rfl rfl) λt D h k x=>aN (h λr g=>x r<|dh _ g) λh1 j m=>aN (k λr g=>x r<|cn _ g) λq z C=>aR (jx h1 q) (jx j z)<|jx m C).1 t
theorem keys_map{α:Type}{f:α->Dt}{l:List α}(h:∀x∈l,(f x).key=true):Dt.keys (l.map f)=true:=by
 induction l with
 |nil=>rfl
 |cons a l g=>calc jx (h a<|.head _)<|g λx j=>h x<|.tail _ j
theorem AJ{α:Type}{f:α->Dt}{l:List α}{n:Nat}(h:∀x∈l,(f x).depth<=n):Dt.dG (l.map f)<=n:=by
 induction l with
 |nil=>calc cO _
 |cons a l g=>calc qA.mpr ⟨h a<|.head _,g λx j=>h x<|.tail _ j⟩
theorem JR{α:Type}{f:α->Dt}{l:List α}(h:∀x∈l,(f x).flat=true/\(f x).noBool=true):Dt.fA (l.map f)=true/\Dt.kB (l.map f)=true:=by
 induction l with
 |nil=>calc⟨rfl,rfl⟩
 |cons a l g=>
  have k:=g λx j=>h x<|.tail _ j;calc⟨jx (h a<|.head _).1 k.1,jx (h a<|.head _).2 k.2⟩
theorem cN.deep(h:cN t):t.dt.depth<=5:=aL t.Bj<|aL t.tc h.1
theorem cN.jM(h:cN t):mU t.dt:=aN (Tm.yC t λr g=>(h.2 r g).1) λh1 j Z=>⟨h1,j,aL h.deep<|lb rfl⟩
theorem cN.key(h:cN t):Key t.dt:=aN (Tm.yC t λr g=>(h.2 r g).1) λZ Z j=>⟨j,aL h.deep<|lb rfl⟩
theorem Bt{l:List Tm}(h:∀t∈l,cN t):Dt.fA (l.map Tm.dt)=true/\Dt.kB (l.map Tm.dt)=true/\Dt.dG (l.map Tm.dt)<=6:=by have k:=JR (f:=Tm.dt) λt g=>⟨(h t g).jM.1,(h t g).jM.2⟩;calc aR k.1 k.2<|AJ λt g=>(h t g).key.dZ
theorem Tm.pE(t u:Tm):t.dt=u.dt->t=u:=(Tm.ind (P:=λt=>∀u:Tm,t.dt=u.dt->t=u) (Q:=λl=>∀g,Tm.kM l=Tm.kM g->l=g) (λs l p u h=>by
   cases u with
   |nd s' g=>
    have h:=dN<|Dt.tup.inj h;rw[Dt.str.inj h.1,p g h.2])
  (λg h=>by
   cases g with
   |nil=>rfl
   |cons _ _=>calc nE h)
  λt q j m g h=>by
   cases g with
   |nil=>calc rq h
   |cons u us=>rw[j u (dN h).1,m us (dN h).2]).1 t u
noncomputable def Tm.fg(t:Tm):Bool:=isVar t.str<|t.kids.map Tm.dt
mutual
noncomputable def Tm.sub(σ:Str->Tm):Tm->Tm
 | .nd s l=>if(Tm.nd s l).fg=true then σ s else .nd s<|Tm.subs σ l
noncomputable def Tm.subs(σ:Str->Tm):List Tm->List Tm
 |[]=>[]
 |t::g=>t.sub σ::Tm.subs σ g
end
theorem Tm.EX(σ:Str->Tm)(l:List Tm):Tm.subs σ l=l.map (Tm.sub σ):=by
 induction l with
 |nil=>rfl
 |cons t h g=>calc congrArg (t.sub σ::·) g
theorem Tm.sub_eq(σ:Str->Tm)(t:Tm):t.sub σ=if t.fg=true then σ t.str else .nd t.str (t.kids.map<|Tm.sub σ):=by
 cases t with
 |nd s l=>calc congrArg (λx=>if(Tm.nd s l).fg=true then σ s else .nd s x)<|Tm.EX σ l
noncomputable def Inst(wide g:Tm):Prop:=∃σ,wide.sub σ=g
noncomputable def Agree(σ:Str->Tm)(tab:List<|Str×Tm):Prop:=∀e∈tab,σ e.1=e.2
noncomputable def qR(σ:Str->Tm)(w:List<|Tm×Tm):Prop:=∀e∈w,e.1.sub σ=e.2
theorem Eu{κ α:Type}[DecidableEq κ](d:κ->α){tab:List<|κ×α}(h:(tab.map (·.1)).Nodup):∃σ:κ->α,∀e∈tab,σ e.1=e.2:=by
 induction tab with
 |nil=>calc⟨d,dF⟩
 |cons e tab g=>
  have h:=iM.mp h;calc ai (g h.2) λσ hs=>⟨λx=>if x=e.1 then e.2 else σ x,fa (if_pos rfl) λd hd=>(if_neg λx:d.1=e.1=>h.1<|bb.mpr ⟨d,hd,x⟩).trans<|hs d hd⟩
theorem KX{tab:List<|Str×Tm}(h:(tab.map (·.1)).Nodup):∃σ,Agree σ tab:=Eu (λs=> .nd s []) h
theorem Ii{σ:Str->Tm}{j g:List Tm}(h:j.length=g.length):qR σ (j.zip g)↔j.map (Tm.sub σ)=g:=by
 induction j generalizing g with
 |nil=>cases g with
  |nil=>calc⟨λZ=>rfl,λZ=>dF⟩
  |cons _ _=>calc nomatch h
 |cons p j l=>cases g with
  |nil=>calc nomatch h
  |cons t g=>
   have l:=l<|qy h;calc mZ.trans ⟨λq=>OK.mpr ⟨q.1,l.mp q.2⟩,λq=>⟨(dN q).1,l.mpr (dN q).2⟩⟩
theorem NM:qR σ (a++b)↔qR σ a/\qR σ b:=BO
theorem Kw:qR σ [(p,t)]↔p.sub σ=t:=List.forall_mem_singleton
noncomputable def Kp(O ah:al):Prop:=∀b,O b≠none->ah b=O b
theorem Kp.refl:Kp O O:=λZ Z=>rfl
theorem Kp.trans(h:Kp O ah)(h':Kp ah g):Kp O g:=λb hb=>(h' b<|by rw[h b hb];calc hb).trans<|h b hb
noncomputable def Fk(t:Tm):Dt:= .tup [.int t.rows.length,.tup<|t.rows.map λr=> .str r.str,.tup (t.rows.map λr=> .int (r.kids.length:Nat))]
noncomputable def ED:Dt->Dt
 | .tup l=> .int (l.length -1:Int)
 |_=> .none
theorem Xk(G:Glob c (ak "parts")<|aK 8)(p:fJ c "enumerate")(D:eO c "len")(H:fJ c "tuple")(F:Fn c f<|aK 10)(hd:t.dZ<=n)(J:n<=1000)(l:t.rows.length<=1000)(hk:∀r∈t.rows,r.kids.length<=1000)(q:Q (.d<|Fk t) O):aW c (k+n+1+1) (.ref f) [.d t.dt] O Q:=by
 have h:t.jR.length=t.rows.length:=by rw[<-Tm.EQ t,au]
 calc cY F rfl λV j=>aU<|xH ((xM j).trans rfl) (j▸rfl) (λZ=>rfl)<|eJ ?_;calc eh G λZ Z=>?_;lk;calc UN G p n t ‹_› hd J l<|⟨_,rfl,?_⟩;rw[bg];refine An t.jR (PV.d∘nA) (λe=>e.2.dt) (by rfl) (by unfold small;calc(aq 569483142837809) l h) (λcenv I e hc T hm=>?_) ?_
 .show cW _ _ _ _ _ (.d<|nA e) _ _;unfold nA;tm_at"2";calc⟨(T.aZ (by rfl) _).aZ (by rfl) _,?_⟩;lk;exact⟨rfl,rfl⟩
 rw[show t.jR.map (λe=>e.2.dt)=t.rows.map Tm.dt by rw[<-Tm.EQ t,bg];rfl];lk;calc cT ?_;lk;calc DF (by unfold small;rw[au];calc yF l h) ?_;lk;calc gN (by rw[j];rfl) (λZ=>rfl)<|eJ ?_;lk;refine⟨_,rfl,mP _ headD (by rfl) (by unfold small;rw[au];calc yF l h) (λcenv hc=>by tm_at"k") ?_ ?_⟩
 .refine λcenv C d hc T hd hm=>ai (Ba hm) λr g=>?_;have z:=g.1;have m:=g.2;clear g;clear hm;subst m;lk;tm_at"A";lk;refine eY (eT) (eV) rfl ⟨rfl,rfl⟩
 lk;calc pX (by unfold small;rw[au,au];calc yF l h) ?_;lk;calc gN (by rw[j];rfl) (λZ=>rfl)<|eJ ?_;lk;refine⟨_,rfl,mP _ ED (by rfl) (by unfold small;rw[au];calc yF l h) (λcenv hc=>by tm_at"k") ?_ ?_⟩
 .refine λcenv C d hc T hd hm=>ai (Ba hm) λr g=>?_;have z:=g.1;have m:=g.2;clear g;clear hm;subst m;lk;tm_at"A";lk;calc kZ (by unfold small;rw[bP,au];have:=hk r z;calc(aB 139044456177) this) ?_;lk;exact⟨rfl,rfl⟩
 lk;calc pX (by unfold small;rw[au,au];calc yF l h) ?_;lk;refine⟨lb rfl,.inl ⟨[_,_,_],rfl,?_⟩⟩
 have e:(Dt.tup [Dt.int ((t.rows.map Tm.dt).length:Int),Dt.tup<|(t.rows.map Tm.dt).map headD,Dt.tup ((t.rows.map Tm.dt).map ED)])=Fk t:=by
  unfold Fk;rw[au,bg,bg];congr 2;congr 1
  .congr 1;apply gZ;intro r _;show headD r.dt=_;rw[r.jv];rfl
  .congr 1;congr 1;apply gZ;intro r _;show ED r.dt=_;rw[r.jv];show Dt.int (((Dt.str r.str::qB Tm.dt r.kids).length:Int) -1)=_;rw[bP,au];congr 1;exact(aB 0x16f01f124f11f01fb)
 rw[<-e] at q;calc q
noncomputable def qE(e:Tm×Tm):PV:= .d<|.tup [e.1.dt,e.2.dt]
theorem LX:∀(a b:List Tm),mX (a.map Tm.dt) (b.map Tm.dt)=(a.zip b).map qE:=by
 intro g;induction g with
 |nil=>
  intro b;cases b<;>rfl
 |cons x a j=>
  intro h;cases h with
  |nil=>
   calc rfl
  |cons y b=>
   calc congrArg (_::·)<|j b
noncomputable def mL(tab:List<|Str×Tm):List (Dt×PV):=tab.map λe=>(.str e.1,.d e.2.dt)
noncomputable def gu(w:List<|Tm×Tm):Nat:=(w.map λe=>e.1.rows.length).sum
theorem Et:∀(w:List<|Tm×Tm),w.length<=gu w:=by
 intro g;induction g with
 |nil=>
  calc bS _
 |cons e w h=>
  have:=h;unfold gu at*
  rw[dK,V2,bP];calc(ax 2496368284216) h<|iK e.1
theorem EP(a b:List<|Tm×Tm):gu (a++b)=gu a+gu b:=by unfold gu;rw[cb,List.sum_append]
theorem Xu:∀(a b:List Tm),gu (a.zip b)<=(Tm.bx a).length:=by
 intro g;induction g with
 |nil=>
  intro b;cases b<;>calc cO _
 |cons x a j=>
  intro h;cases h with
  |nil=>
   calc cO _
  |cons y b=>
   unfold gu at*
   rw[tQ,dK,V2,Tm.iP,bA];show x.rows.length+_<=_;calc(ax 155982172755)<|j b
theorem MH(h:dH (mL tab) (.str x)=some p):∃t,(x,t)∈tab/\p= .d t.dt:=by unfold dH mL at h;calc ai (jX.mp h) λy g=>?_;have hy:=g.1;have j:=g.2;clear g;subst j;have h1:=tO hy;have l:=wF hy;calc ai (bb.mp h1) λe g=>?_;have he:=g.1;have j:=g.2;clear g;clear hy h1 h;subst j;calc⟨e.2,?_,rfl⟩;rw[<-(Dt.str.inj<|of_decide_eq_true l)];calc he
theorem MG(tab:List<|Str×Tm):(mL tab).map (·.1)=(tab.map (·.1)).map .str:=by unfold mL;rw[bg,bg];rfl
theorem A7(b0:eO c "len")(a5:fJ c "zip")(GV:Glob c (ak "is_variable")<|aK 7)(F:Fn c f<|aK 9)(hP:cN P)(hT:cN T)(q1:∀ah a,Inst P T->Kp O ah->Q (.ref a) ah)(q0:∀ah,¬Inst P T->Kp O ah->Q (.d .none) ah):aW c (k+1+1) (.ref f) [.d P.dt,.d T.dt] O Q:=by
 calc cY F rfl λV b1=>aU<|yz (names:=[ak "table",ak "waiting"]) (by rfl) ((wY b1).trans rfl) (by rw[b1];rfl)<|cT<|ba<|lG λtb b2=>ba<|iV<|ba<|cT ?_;lk;calc⟨lb rfl,.inl ⟨[P.dt,T.dt],rfl,?_⟩⟩;lk;calc⟨lb rfl,λX L=>?_⟩;have b3:=(dE L);have Y:=b3.1;have L:=b3.2;lk;calc⟨lb rfl,.inr ⟨_,EK,rfl,?_⟩⟩;refine aU (Eg (λm ah a6=>a6 (ak "table")=some (.ref tb)/\a6 (ak "waiting")=some (.ref X)/\∃(tab:List<|Str×Tm) (w:List<|Tm×Tm),ah tb=some (.aM<|mL tab)/\ah X=some (.lst<|w.map qE)/\Kp O ah/\ (tab.map (·.1)).Nodup/\(∀e∈tab,cN e.2)/\(∀e∈w,cN e.1/\cN e.2)/\(∀σ,(Agree σ tab/\qR σ w)↔P.sub σ=T)/\m=gu w/\tab.length+m<=5) P.rows.length (aR rfl rfl<|bv ([]) ([(P,T)])<|Ao ((aC<|cI Y).trans bo) bo ?_ hX (λ_ h=>(cX h)) ?_ ?_ ?_ ?_) ?_)
 .intro b hb;rw[aC λe:b=X=>hb<|e▸L,aC λe:b=tb=>hb (e▸b2)]
 .intro e he;rw[ci.mp he];exact⟨hP,hT⟩
 .intro σ;rw[Kw];exact⟨λh=>h.2,λh=>⟨λ_ h=>(cX h),h⟩⟩
 .unfold gu;simp
 .simpa using hP.1
 intro m ah a6 g;have a7:=g.1;have a8:=g.2.1;have Z:=g.2.2;calc aE Z λtab w b4=>lI b4 λb5 hw b6 a0 a1 a2 N c3 hm=>?_;clear Z b4 g;subst c3;have b7:=Et w;lk;tm_at"A";lk;calc jm hw (by unfold small;rw[au];calc(ax 0x205f120bf453251) hm b7) ?_;lk;calc⟨_,rfl,?_⟩;rcases K6 w with rfl|⟨l,⟨p,t⟩,b8⟩
 .refine cy rfl ?_;lk;tm_at"A";exact ai (KX a0) λσ hs=>q1 ah tb ⟨σ,(N σ).mp ⟨hs,λ_ h=>(cX h)⟩⟩ b6
 rw[Ol] at b8;subst b8;calc cB (decide_eq_true<|wN.mpr<|by rw[au,bA];calc ph _) ?_;rw[cb] at hw;have b9:=(a2 (p,t) (cn _<|.head _):cN p/\cN t);have a3:=b9.1;have j:=b9.2;have C:gu (l++[(p,t)])=gu l+p.rows.length:=by rw[EP];unfold gu;simp
 rw[C] at hm;calc aU<|cz ?_;tm_at"m";tm_at"A";calc ij hw Og H8 ?_;lk;calc Nt hw (by unfold small;rw[au];have:=Et l;calc(cK 0x205fb20bf44a5364a500f251) hm C this) ?_;have H:=(aC (O:=ah) (m:= .lst<|l.map qE)<|cI Y).trans b5;have q:Kp O (upd ah X<|.lst<|l.map qE):=λb hb=>(aC λe:b=X=>hb<|e▸L).trans<|b6 b hb;have S:=bo (O:=ah) (a:=X) (m:= .lst<|l.map qE);generalize upd ah X (.lst<|l.map qE)=c5 at H q S|-;show cW _ _ _ _ _ (.d<|.tup [p.dt,t.dt]) _ _;tm_at"2";have r:∀σ,(Agree σ tab/\qR σ l/\p.sub σ=t)↔P.sub σ=T:=λσ=>by rw[<-N σ,NM,Kw]
 calc aU<|pU<|uT ?_;calc eh GV λ_ _=>?_;lk;have U:=a3.str;have c0:=j.str;have a9:=a3.kids;have I:=j.kids;rw[p.jv];calc VF b0 ‹_› U.2.2 U.1 (by rw[au];calc(aB 139302407153) a9) ⟨_,rfl,?_⟩;by_cases hv:isVar p.str (p.kids.map Tm.dt)=true
 .have D:∀σ,p.sub σ=σ p.str:=λσ=>by rw[Tm.sub_eq,if_pos (show p.fg=true from hv)]
  calc cB hv<|aU<|pU<|lP (by rfl) ?_;tm_at"m";tm_at"c";calc vU H yH BG ?_;lk;calc eY (eT) (eV) rfl ?_;lk;calc yu H ⟨U.1,qe⟩ (by unfold small mL;rw[au];calc(aV 0x205f120bf445316453a) hm C) λp' c6 c4=>?_;lk;rcases c4 with⟨hg,rfl⟩|⟨hg,rfl,rfl⟩
  .refine ai (MH hg) λu g=>?_;have hu:=g.1;have Z:=g.2;clear g;clear hg;subst Z;calc kU (a1 _ hu).jM j.jM ⟨_,rfl,?_⟩;by_cases e:u=t
   .clear N c0 j U b7 hw a9 I a3;subst e;calc cy (by rw[decide_eq_true rfl];rfl) ?_;lk;refine⟨gu l,by rw[C];have:=iK p;calc(aq 1949372984) this,a7,a8,tab,l,H,S,q,a0,a1,λe he=>a2 e<|dh _<|by assumption,λσ=>?_,rfl,(aV 0x20bf43120bf445316453a) hm C⟩
    .rw[<-r σ,D];exact⟨λh=>aR h.1 h.2<|h.1 _ hu,λh=>⟨h.1,h.2.1⟩⟩
   .refine cB (by rw[decide_eq_false λh=>e (Tm.pE _ _ h)];rfl) ?_;lk;calc q0 _ (λz=>ai z λσ hs=>aN ((r σ).mpr hs) λh1 _ J=>?_) q;rw[D] at J;exact e<|(h1 _ hu).symm.trans J
  .refine kU j.jM j.jM ⟨_,rfl,cy (by rw[decide_eq_true rfl];rfl) ?_⟩;lk;refine⟨gu l,by rw[C];have:=iK p;calc(aq 1949372984) this,a7,a8,tab++[(p.str,t)],l,?_,(aC Y).trans S,λb hb=>(aC λe:b=tb=>hb<|e▸b2).trans<|q b hb,?_,?_,λe he=>a2 e<|dh _<|by assumption,λσ=>?_,rfl,?_⟩
   .rw[bo];unfold mL;rw[cb];rfl
   .rw[MG] at hg;rw[cb];exact kg a0 λh=>hg<|cL h
   .intro e he;rcases ca.mp he with h|h
    .exact a1 e h
    .rw[ci.mp h];exact j
   .rw[<-r σ,D];constructor
    .intro g;exact aw g λh1 h2=>aR (λe he=>h1 e<|dh _ he) h2<|h1 (p.str,t)<|cn _<|.head _
    .intro g;calc aN g λh1 h2 J=>⟨λe he=>?_,h2⟩;rcases ca.mp he with h|h
     .exact h1 e h
     .rw[ci.mp h];exact J
   .rw[bA,gG];exact(aV 0x20bf43b20bf445316453a258) hm C<|iK p
 .have D:∀σ,p.sub σ= .nd p.str (p.kids.map<|Tm.sub σ):=λσ=>by rw[Tm.sub_eq,if_neg (show¬p.fg=true from hv)]
  calc cy (by simpa using hv) ?_;have cv:∀σ,P.sub σ=T->p.str=t.str/\p.kids.length=t.kids.length:=λσ hs=>by calc aN ((r σ).mpr hs) λ_ _ J=>?_;rw[D] at J;have e1:=congrArg Tm.str J;exact⟨e1,by simpa[Tm.kids] using(congrArg (λx=>x.kids.length) J)⟩
  calc aU<|pU<|rF<|rL ?_;lk;calc eY (eT) (eV) rfl ?_;lk;rw[t.jv];calc eY (eT) (eV) rfl<|kU (ie U.1) (ie c0.1) ⟨_,rfl,?_⟩;by_cases e1:p.str=t.str
  .refine cy (by rw[decide_eq_true (by rw[e1])];rfl)<|rL ?_;lk;calc kZ (by unfold small;rw[bP,au];calc nT a9) ?_;lk;calc kZ (by unfold small;rw[bP,au];calc nT I)<|kU et et ⟨_,rfl,?_⟩;rw[bP,bP,au,au];by_cases e2:p.kids.length=t.kids.length
   .refine cy (by rw[decide_eq_true (by rw[e2])];rfl)<|rH<|cy rfl<|aU<|eG<|Zk (by rfl) (by rfl) (by rfl) (by rfl) ?_
    tm_at"c";calc⟨X,rfl,⟨_,S⟩,gO (by tm_at"k") (by decide) a5.1 a5.2 ⟨rfl,?_⟩⟩;lk;calc il (lb rfl) (by unfold small;rw[bP,au];calc(aq 569526097753649) I e2) ?_;lk;calc il (lb rfl) (by unfold small;rw[bP,au];calc nT I) ?_;lk;calc⟨p.kids.map Tm.dt,t.kids.map Tm.dt,l.map qE,rfl,by rw[au,au,e2],S,by unfold small;rw[au,au];have:=Et l;calc(dB [_,_,_,_,_,_,_] 0x205f43120bf4400fa56400fa07f20bf13f613f32a1) hm C I e2 this,?_⟩;rw[LX,<-cb];have c1:=Xu p.kids t.kids;have c2:p.rows.length=(Tm.bx p.kids).length+1:=by rw[yf,bP]
    refine cE<|cE<|cE ⟨gu<|l++p.kids.zip t.kids,by rw[C,EP];calc(aV 0x74514312a360df5) c1 c2,a7,a8,tab,_,(aC<|cI Y).trans H,bo,λb hb=>(aC λe:b=X=>hb<|e▸L).trans<|q b hb,a0,a1,?_,λσ=>?_,rfl,by rw[EP];calc(dU 0x20bf4453120bf44a3164a300f207f564807fa) hm C c1 c2⟩
    .intro e he;rcases ca.mp he with h|h
     .exact a2 e<|dh _<|by assumption
     .have:=Ce h;exact⟨a3.kt this.1,j.kt this.2⟩
    .rw[<-r σ,NM,Ii e2,D];constructor
     .intro g;calc aN g λh1 h2 J=>aR h1 h2 ?_;rw[J,e1];cases t;rfl
     .intro g;calc aN g λh1 h2 J=>aR h1 h2 ?_;exact(congrArg Tm.kids J)
   .refine cB (by rw[decide_eq_false (by rw[Dt.int.injEq];calc(aq 0xd16f01fc01fbd631) e2)];rfl)<|cB rfl ?_;lk;exact q0 _ (λz=>ai z λσ hs=>e2 (cv σ hs).2) q
  .refine cB (by rw[decide_eq_false (by rw[Dt.str.injEq];calc e1)];rfl)<|cB rfl ?_;lk;calc q0 _ (λz=>ai z λσ hs=>e1 (cv σ hs).1) q
theorem QK(g:eO c "len")(j:fJ c "zip")(l:Glob c (ak "is_variable")<|aK 7)(m:Glob c (ak "matched")<|aK 9)(F:Fn c f<|aK 14)(p:cN N)(r:cN W)(q:∀ah b,(b=true↔Inst W N)->Kp O ah->Q (.d<|.bool b) ah):aW c (k+1+1+1) (.ref f) [.d N.dt,.d W.dt] O Q:=by
 calc cY F rfl λV z=>aU<|eX<|sD (by rfl) ?_;calc eh m λZ Z=>?_;lk;refine A7 g j l ‹_› r p (λah a h hk=>?_) λah h hk=>?_
 .lk;exact JE rfl<|q ah _ ⟨λZ=>h,λZ=>rfl⟩ hk
 .lk;calc JE rfl<|q ah _ ⟨λh'=>(ek h'),λh'=>absurd h' h⟩ hk
noncomputable instance:DecidableEq Tm:=E9 Tm
noncomputable def isQ(s:Str):Bool:=decide<|(⟨s.cps.extract 0 1⟩:Str)=ak "?"
noncomputable def gW(i:Nat):Str:=sk++ak "?"++ak (toString (i:Int))
noncomputable def qv(i:Nat):Tm:= .nd (gW i) []
mutual
noncomputable def Tm.nm(vs:List Tm):Tm->List Tm×Tm
 | .nd s l=>if isQ s=true then(if Tm.nd s l∈vs then(vs,qv<|vs.idxOf<|Tm.nd s l) else(vs++[Tm.nd s l],qv vs.length)) else((Tm.cJ vs l).1,.nd s (Tm.cJ vs l).2)
noncomputable def Tm.cJ(vs:List Tm):List Tm->List Tm×List Tm
 |[]=>(vs,[])
 |t::g=>((Tm.cJ (t.nm vs).1 g).1,(t.nm vs).2::(Tm.cJ (t.nm vs).1 g).2)
end
theorem Tm.EG{vs:List Tm}:(Tm.nd s l).nm vs=if isQ s=true then(if Tm.nd s l∈vs then(vs,qv<|vs.idxOf<|Tm.nd s l) else(vs++[Tm.nd s l],qv vs.length)) else((Tm.cJ vs l).1,.nd s (Tm.cJ vs l).2):=rfl
theorem Tm.MD(vs a:List Tm)(t:Tm):Tm.cJ vs (a++[t])=((t.nm (Tm.cJ vs a).1).1,(Tm.cJ vs a).2++[(t.nm (Tm.cJ vs a).1).2]):=by
 induction a generalizing vs with
 |nil=>rfl
 |cons b a g=>calc congrArg (λq:List Tm×List Tm=>(q.1,(b.nm vs).2::q.2))<|g (b.nm vs).1
theorem Xw(vs:List Tm)(s:Str)(l:List Tm):(Tm.nd s l).nm vs=if isQ s=true then(if Tm.nd s l∈vs then(vs,qv<|vs.idxOf<|Tm.nd s l) else(vs++[Tm.nd s l],qv vs.length)) else((Tm.cJ vs l).1,.nd s (Tm.cJ vs l).2):=rfl
theorem vX{P:List Tm×Tm->Prop}{vs:List Tm}{s:Str}{l:List Tm}(h1:isQ s=true->Tm.nd s l∈vs->P (vs,qv<|vs.idxOf<|Tm.nd s l))(h:isQ s=true->Tm.nd s l∉vs->P (vs++[Tm.nd s l],qv vs.length))(j:¬isQ s=true->P ((Tm.cJ vs l).1,.nd s (Tm.cJ vs l).2)):P ((Tm.nd s l).nm vs):=by
 rw[Xw];by_cases g:isQ s=true
 .rw[if_pos g];by_cases hm:Tm.nd s l∈vs
  .rw[if_pos hm];exact h1 g hm
  .rw[if_neg hm];exact h g hm
 .rw[if_neg g];calc j g
theorem Tm.LL(l vs:List Tm)(h:vs.Nodup):(Tm.cJ vs l).1.Nodup:=(Tm.ind (P:=λt=>∀vs:List Tm,vs.Nodup->(t.nm vs).1.Nodup) (Q:=λl=>∀vs:List Tm,vs.Nodup->(Tm.cJ vs l).1.Nodup) (λZ Z g vs h=>vX (P:=λq=>q.1.Nodup) (λZ Z=>h) (λZ=>kg h) λZ=>g vs h) (λZ h=>h) λZ Z h k vs q=>k _<|h vs q).2 l vs h
theorem Tm.W2(t:Tm)(vs:List Tm):vs.Nodup->(t.nm vs).1.Nodup:=Tm.LL [t] vs
theorem Tm.NI(l vs:List Tm):(Tm.cJ vs l).1.length<=vs.length+(Tm.bx l).length:=(Tm.ind (P:=λt=>∀vs:List Tm,(t.nm vs).1.length<=vs.length+t.rows.length) (Q:=λl=>∀vs:List Tm,(Tm.cJ vs l).1.length<=vs.length+(Tm.bx l).length) (λs l g vs=>vX (P:=λq=>q.1.length<=vs.length+((Tm.bx l).length+1)) (λZ Z=>kI ..) (λZ Z=>bA▸oY (iv<|cO _) _) λZ=>aL (g vs)<|oY (oa _) _) (λZ=>bS _) λt j h k vs=>aL (k _)<|aL (wx (h vs) _)<|fO<|(sg ..).trans<|congrArg _ bA.symm).2 l vs
theorem Tm.Lk(t:Tm)(vs:List Tm):(t.nm vs).1.length<=vs.length+t.rows.length:=ea t.rows▸Tm.NI [t] vs
theorem Tm.Mw(l vs:List Tm):(Tm.cJ vs l).2.length=l.length:=by
 induction l generalizing vs with
 |nil=>rfl
 |cons t h g=>calc congrArg (·+1)<|g _
noncomputable def mm(vs:List Tm):List (Dt×PV):=vs.mapIdx λi v=>(v.dt,.d (qv i).dt)
theorem Do(vs:List Tm):(mm vs).map (·.1)=vs.map Tm.dt:=by apply yO;intro i;unfold mm;rw[dm,dm,yK];cases vs[i]? <;>rfl
theorem UQ{vs:List Tm}(m:vs.Nodup){v:Tm}(h:v∈vs):dH (mm vs) v.dt=some (.d (qv<|vs.idxOf v).dt):=by
 have g:=BL.mpr h;refine wg (j:=vs.idxOf v) ?_ ?_
 .rw[Do];exact m.map _ λa b l e=>l<|Tm.pE a b e
 .unfold mm;rw[yK,cR g,N0 g];rfl
theorem Vj(vs:List Tm)(v:Tm):mm vs++[(v.dt,.d (qv vs.length).dt)]=mm (vs++[v]):=by unfold mm;rw[OA];simp
noncomputable def fc(t:Tm):Prop:=cN t/\∀r∈t.rows,isQ r.str=true->r.kids=[]
theorem fc.kt{t u:Tm}(h:fc t)(g:u∈t.kids):fc u:=⟨h.1.kt g,λr j=>h.2 r<|Ly g j⟩
theorem AI{i:Nat}(h:i<=100):small ((sk++ak "?")++ak (toString (i:Int))).length:=by
 have:∀i:Fin 101,((sk++ak "?")++ak (toString (i.val:Int))).length<=1000000:=by decide+kernel
 calc this ⟨i,(aB 500616531953) h⟩
theorem zt{i:Nat}(h:i<=100):(i:Int).natAbs.log2<1920:=by rw[Int.natAbs_natCast];calc yN (Nat.log2_le_self i)<|(aB 500884967409) h
theorem WU(G:Glob c (ak "named")<|aK 15)(H:eO c "len")(a5:fJ c "tuple"):∀(n:Nat) (t:Tm) {k:Nat} {f nm:Addr} {vs:List Tm} {O:al} {Q:PV->al->Prop},Fn c f (aK 15)->t.dZ<=n->fc t->O nm=some (.aM<|mm vs)->vs.Nodup->vs.length+t.rows.length<=50->(∀ah,ah nm=some (.aM<|mm (t.nm vs).1)->(∀b,b≠nm->ah b=O b)->Q (.d (t.nm vs).2.dt) ah)->aW c (k+n+1) (.ref f) [.d t.dt,.ref nm] O Q:=by
 intro S;induction S with
 |zero=>
  intro U;cases U with
  |nd s l=>
   intro k f nm vs O Q F N I hm C hz q;calc absurd N<|gm _
 |succ n ih=>
  intro X;cases X with
  |nd s l=>
   intro k f nm vs O Q F N I hm C hz q;rw[Tm.vQ] at N;have hs:=I.1.str;have D:=I.1.kids;have p:(Tm.nd s l).rows.length=(Tm.bx l).length+1:=by rw[Tm.jJ,bP]
   rw[Tm.EG] at q;calc cY F rfl λV Y=>?_;have J:(Tm.nd s l).dt= .tup (.str s::l.map Tm.dt):=(Tm.nd s l).jv;rw[J];lk;calc eY (eT) (eV) rfl<|Lx hs.2.2 ?_;lk;calc fe (ie<|Dk hs.1) (ie<|by decide+kernel) ⟨_,rfl,?_⟩;rw[show decide (Dt.str ⟨s.cps.extract 0 1⟩=Dt.str (ak "?"))=isQ s from decide_eq_decide.mpr (by rw[Dt.str.injEq])];by_cases P:isQ s=true
   .refine cB P ?_
    rw[if_pos P] at q;calc aU<|eX ?_;tm_at"m";lk;calc vU hm yH BG ?_;lk;calc cT<|ba<|Dh<|rn ?_;lk;calc⟨_,rfl,by unfold small;decide+kernel,rn<|zV<|rJ H (by tm_at"k") (by decide) (by rfl) (by rfl)<|ba ?_⟩;lk;have r:(mm vs).length=vs.length:=by unfold mm;simp
    calc Ff hm (by unfold small;calc(aV 0x205f1210f45360df5631) hz p r) ?_;rw[r];calc⟨_,rfl,zt<|(aV 0x20ff1210f431603f361a) hz p r,_,rfl,AI<|(aV 0x20ff1210f431603f361a) hz p r,Dv (AI<|(aV 0x20ff1210f431603f361a) hz p r) ?_⟩;lk;calc⟨lb rfl,.inl ⟨[.str (gW vs.length)],rfl,?_⟩⟩;lk;have Z:(qv vs.length).dt= .tup [.str (gW vs.length)]:=by unfold qv;rw[Tm.nR,Tm.uH]
    rw[<-J,<-Z];calc yu hm I.1.key (by unfold small;calc(aV 0x205f1210f45360df5631) hz p r) λp' a0 a1=>?_;rcases a1 with⟨hg,rfl⟩|⟨hg,rfl,rfl⟩
    .have kN:Tm.nd s l∈vs:=by
      have:=Mx hg;rw[Do] at this;calc ai (bb.mp this) λv j=>aw j λhv e=>?_;rwa [<-Tm.pE _ _ e]
     rw[UQ C kN] at hg;rw[if_pos kN] at q;obtain rfl:=gn hg;exact q _ hm λ_ _=>rfl
    .rw[Do] at hg;rw[if_neg λh=>hg (cL h)] at q;calc q _ ?_ λb hb=>aC hb;rw[bo,Vj]
   .refine cy (by simpa using P) ?_;rw[if_neg P] at q;lk;calc LA (by unfold small;rw[bP,au];have:l.length<=5:=D;calc nT this) ?_;lk;calc gN (by rw[Y];rfl) (λ_=>rfl)<|oq ?_;lk;have z:l.length<=5:=D;refine il (lb rfl) (by unfold small;rw[bP,au];calc nT z)<|⟨_,rfl,xi (g:=λt:Tm=>PV.d t.dt) (l:=l) (by rfl) (λdone=>(Tm.cJ vs done).2.map Tm.dt) (λdone ah=>ah nm=some (.aM<|mm (Tm.cJ vs done).1)/\∀b,b≠nm->ah b=O b) ?_ ?_ ⟨?_,λ_ _=>rfl⟩ ?_ ?_⟩
    .rw[uf,uc,bg];rfl
    .rfl
    .exact hm
    .intro cenv a6 done t L ah hc T hd j
     ·
      have kN:t∈l:=mid hd;have a2:(Tm.bx l).length=(Tm.bx done).length+(t.rows.length+(Tm.bx L).length):=by rw[hd,Tm.oN,bA,Tm.iP,bA]
      have m:=Tm.Mw done vs;calc⟨by unfold small;rw[au,m];calc(ax 0x205f120bf3231615) z (ja<|nS hd) m,jL ⟨T.aZ (by rfl) _,vR<|cB rfl ?_⟩⟩;calc eh G λ_ _=>?_;lk;calc cf (by unfold aZ;rw[if_neg (by decide),T _ (by rfl)];rfl) ?_;lk;refine ih t ‹_› (by have:=Tm.qX kN;calc sy N this) (I.kt kN) j.1 (Tm.LL done vs C) (by have:=Tm.NI done vs;calc(oo 0x210f431210f4a562bfa64413f307f00f2407f51) hz p a2 this) λa0 h2 a3=>⟨_,rfl,?_,?_,λb hb=>(a3 b hb).trans<|j.2 b hb⟩
      .rw[Tm.MD,cb];rfl
      .rw[Tm.MD];exact h2
    .intro ah j;lk;have m:=Tm.Mw l vs;calc pX (by unfold small;rw[au,m];calc(aq 569483148072467) z m)<|qi (by unfold small;rw[au,m];calc aL (wx (Op _ _) _) ?_;rw[bP,au];have:l.length<=5:=D;calc(aq 0x205f41b20bf1613) z m) ?_;have:=q ah j.1 j.2;rw[Tm.nR,Tm.vV] at this;calc this
end
section
variable{s:Hp}{e:Nat}
noncomputable def vStr(a b:Nat):Str:=sk++ak "?"++ak (toString (a:Int))++ak "/"++ak (toString (b:Int))
noncomputable def vT(a b:Nat):Tm:= .nd (vStr a b) []
mutual
noncomputable def du(s:Hp)(a b:Nat):Tm->Prop
 | .nd x g=>(x=vStr a b/\g=[])\/∃m n,fx s a m/\fx s b n/\m.op=x/\n.op=x/\jG s m.kids n.kids g
noncomputable def jG(s:Hp):List Nat->List Nat->List Tm->Prop
 |xs,ys,[]=>xs=[]/\ys=[]
 |xs,ys,t::j=>∃x g y h,xs=x::g/\ys=y::h/\du s x y t/\jG s g h j
end
noncomputable def mQ(g:List Tm):Nat:=(Tm.bx g).length
theorem qF(t:Tm)(g:List Tm):mQ (t::g)=t.rows.length+mQ g:=by unfold mQ;rw[Tm.iP,bA]
theorem Dr(x:Str)(g:List Tm):(Tm.nd x g).rows.length=mQ g+1:=by rw[Tm.jJ,bP];rfl
theorem te:∀{g:List Tm} {xs ys:List Nat},jG s xs ys g->xs.length=g.length/\ys.length=g.length:=by
 intro j;induction j with
 |nil=>
  intro xs ys h;have h:xs=[]/\ys=[]:=h;rw[h.1,h.2];calc⟨rfl,rfl⟩
 |cons t g l=>
  intro xs ys h;obtain⟨x,m,y,p,rfl,rfl,_,h⟩:=h;calc⟨congrArg _ (l h).1,congrArg _ (l h).2⟩
theorem jG.c(h:jG s (x::xs) (y::ys) (t::g)):du s x y t/\jG s xs ys g:=by calc jV h λZ Z Z Z q=>bV q λe1 e2 a b=>?_;rw[(dN e1).1,(dN e1).2,(dN e2).1,(dN e2).2];calc⟨a,b⟩
theorem ff{α j:Type}{l:List α}{g:α->List j}{a:α}{b:j}(h:a∈l)(k:b∈g a):b∈l.flatMap g:=gI.mpr ⟨a,h,k⟩
theorem Rt(g:List Tm):g.length<=mQ g:=Tm.sZ g
noncomputable def wX:Tm:= .nd (ak "a") []
noncomputable def xk:Tm:= .nd (ak "b") []
noncomputable def jS(a b:Nat):List Tm:=[vT a b,wX,xk]
noncomputable def nM(x:String)(n:Nd):Bool:=decide<|n.op=ak x
noncomputable def canon(s:Hp):List Nd:=s.nodes.map<|gs s.par
noncomputable def ir(s:Hp):List Nat:=((canon s).filter<|nM "f").map λn=>n.kids.getD 0 0
noncomputable def fQ(s:Hp):List (Nat×Nat):=((canon s).filter<|nM "p").map λn=>(n.kids.getD 0 0,n.kids.getD 1 0)
noncomputable def fT(t:Tm):Tm:= .nd (ak "f") [t]
noncomputable def pT(t u:Tm):Tm:= .nd (ak "p") [t,u]
noncomputable def lh(s:Hp):List Tm:=(ir s).flatMap λx=>(ir s).flatMap λy=>(jS x y).map fT
noncomputable def pp(s:Hp)(g h:Nat->Nat->List Tm):List Tm:=(fQ s).flatMap λx=>(fQ s).flatMap λy=>(g x.1 y.1).flatMap λt=>(h x.2 y.2).map λu=>pT t u
noncomputable def uS(s:Hp):List Tm:=(lh s).map fT++pp s jS jS
noncomputable def DE(s:Hp):List Tm:=(uS s).map fT++(pp s jS (λZ Z=>lh s)++pp s (λZ Z=>lh s) jS)
theorem jB{α j:Type}{g:α->List j}{n:Nat}{l:List α}(h:∀x∈l,(g x).length<=n):(l.flatMap g).length<=l.length*n:=by
 induction l with
 |nil=>calc cO _
 |cons a l m=>
  rw[tT,bA,bP,Nat.succ_mul,wK];calc pe (m λx p=>h x<|dw _ p)<|h a dC
theorem IF{α j p:Type}{f:α->j->p}{l:List α}{g:List j}{m n:Nat}(h:l.length<=m)(k:g.length<=n):(l.flatMap λt=>g.map λu=>f t u).length<=m*n:=aL (jB λx Z=>by rw[au];calc k)<|nc n h
theorem ER{g h:Nat->Nat->List Tm}{m n:Nat}(hg:∀a b,(g a b).length<=m)(hh:∀a b,(h a b).length<=n):(pp s g h).length<=(fQ s).length*((fQ s).length*(m*n)):=jB λZ Z=>jB λZ Z=>IF (hg ..)<|hh ..
theorem EA{g h:Nat->Nat->List Tm}{x y:Nat×Nat}{t u:Tm}(j:x∈fQ s)(hy:y∈fQ s)(l:t∈g x.1 y.1)(m:u∈h x.2 y.2):pT t u∈pp s g h:=ff j<|ff hy<|ff l<|cL m
theorem wn:(lh s).length<=(ir s).length*((ir s).length*3):=jB λx Z=>jB λy Z=>fO<|au ..
theorem qU(a b:Nat):(jS a b).length<=3:=bS 3
theorem Dm:(uS s).length<=(ir s).length*((ir s).length*3)+(fQ s).length*((fQ s).length*(3*3)):=by rw[bA,au];calc pe wn<|ER qU qU
theorem Rc:(DE s).length<=(ir s).length*((ir s).length*3)+(fQ s).length*((fQ s).length*(3*3))+((fQ s).length*((fQ s).length*(3*((ir s).length*((ir s).length*3))))+(fQ s).length*((fQ s).length*((ir s).length*((ir s).length*3)*3))):=by rw[bA,bA,au];calc pe Dm<|pe (ER qU λZ Z=>wn)<|ER (λZ Z=>wn) qU
noncomputable def mI(s:Hp):Prop:=(⟨ak "a",[]⟩:Nd)∈s.nodes/\(⟨ak "b",[]⟩:Nd)∈s.nodes
theorem zv(p:Nd->Bool)(n:Nd)(l:List Nd):((n::l).filter p).length=(p n).toNat+(l.filter p).length:=by
 rw[wC];cases p n with
 |true=>calc wK _ 1
 |false=>calc(np _).symm
theorem Zv(n:Nd):(nM "f" n).toNat+(nM "p" n).toNat+(nM "a" n).toNat+(nM "b" n).toNat<=1:=by
 unfold nM;generalize n.op=x;by_cases h:x=ak "f"
 .rw[h];decide+kernel
 .rw[decide_eq_false h];by_cases h:x=ak "p"
  .rw[h];decide+kernel
  .rw[decide_eq_false h];by_cases h:x=ak "a"
   .rw[h];decide+kernel
   .rw[decide_eq_false h];calc(np _).symm▸Bool.toNat_le _
theorem Vs(l:List Nd):(l.filter<|nM "f").length+(l.filter<|nM "p").length+(l.filter<|nM "a").length+(l.filter<|nM "b").length<=l.length:=by
 induction l with
 |nil=>calc bS _
 |cons n l g=>
  rw[zv,zv,zv,zv,bP];calc(dB [_,_,_,_,_,_,_,_,_] 0x22bf44a3df4453cf44313f4107f200f4a454312843df43cf413f07f) g<|Zv n
theorem Sd(g:s.nodes.length<=7)(T:mI s):(ir s).length+(fQ s).length<=5:=by
 rw[au,au];have h:(canon s).length=s.nodes.length:=by rw[au]
 calc(dU 0x20bf431209f5207f400f4a4316507f2a8200f8) g (Vs<|canon s) h (GB (a:=⟨ak "a",[]⟩)<|gK.mpr ⟨bb.mpr ⟨_,T.1,rfl⟩,decide_eq_true rfl⟩)<|GB (a:=⟨ak "b",[]⟩)<|gK.mpr ⟨bb.mpr ⟨_,T.2,rfl⟩,decide_eq_true rfl⟩
theorem QS:∀f p:Fin 6,f.val+p.val<=5->(3+f.val*(f.val*3)+(f.val*(f.val*3)+p.val*(p.val*(3*3)))+(f.val*(f.val*3)+p.val*(p.val*(3*3))+(p.val*(p.val*(3*(f.val*(f.val*3))))+p.val*(p.val*(f.val*(f.val*3)*3))))<=1000/\463+f.val*(f.val*3)+(f.val*(f.val*3)+p.val*(p.val*(3*3)))<=1000)/\f.val*(f.val*3)<=75:=by decide+kernel
theorem Nz(g:s.nodes.length<=7)(T:mI s):(3+(lh s).length+(uS s).length+(DE s).length<=1000/\463+(lh s).length+(uS s).length<=1000)/\(lh s).length<=75:=by have h:=Sd g T;have:=QS ⟨(ir s).length,oZ<|aL (kI ..) h⟩ ⟨(fQ s).length,oZ<|aL (Pb ..) h⟩ h;calc⟨⟨aL (pe (pe (oY wn _) Dm) Rc) this.1.1,aL (pe (oY wn _) Dm) this.1.2⟩,aL wn this.2⟩
theorem fx.canon(h:fx s r n):n∈canon s:=by obtain⟨i,m,hm,_,rfl⟩:=h;calc bb.mpr ⟨m,fZ hm,rfl⟩
theorem Good.wh(G:Good e s)(h:fx s r n):pD n.op n.kids.length:=by obtain⟨i,m,hm,_,rfl⟩:=h;rw[au];calc(G.ok m<|fZ hm)
theorem LQ(h:fx s r n)(k:n.op=ak "f"):n.kids.getD 0 0∈ir s:=cL (f:=λn:Nd=>n.kids.getD 0 0)<|gK.mpr ⟨h.canon,decide_eq_true k⟩
theorem Ib(h:fx s r n)(k:n.op=ak "p"):(n.kids.getD 0 0,n.kids.getD 1 0)∈fQ s:=cL (f:=λn:Nd=>(n.kids.getD 0 0,n.kids.getD 1 0))<|gK.mpr ⟨h.canon,decide_eq_true k⟩
theorem zy(G:Good e s){P:Tm->Prop}(h:du s a b t)(l:∀t∈jS a b,P t)(f:∀x∈ir s,∀y∈ir s,∀u,du s x y u->P (fT u))(p:∀x∈fQ s,∀y∈fQ s,∀u v,du s x.1 y.1 u->du s x.2 y.2 v->P (pT u v)):P t:=by
 cases t with
 |nd x D=>
  calc wT (show _\/_ from h) (λh=>h.1▸h.2▸l _ (.head _)) λh=>aE h λm n q=>fi q λhm z h1 C hc=>?_;have r:=te hc;rcases G.wh hm with⟨k,g⟩|⟨k,g⟩|⟨k,g⟩
  .rw[<-h1,BF (r.1.symm.trans g)];exact k.elim (λk=>k▸l _ (.tail _<|.head _)) λk=>k▸l _ (.tail _<|.tail _<|.head _)
  .have f:=f _ (LQ hm k) _<|LQ z<|C.trans<|h1.symm.trans k;rw[<-h1,k];calc ai (GC.mp g) λi e1=>ai (GC.mp<|r.2.trans<|r.1.symm.trans g) λj e2=>ai (GC.mp<|r.1.symm.trans g) λu e3=>?_;rw[e1,e2] at f;rw[e1,e2,e3] at hc;rw[e3];exact f u hc.c.1
  .have p:=p _ (Ib hm k) _<|Ib z<|C.trans<|h1.symm.trans k;rw[<-h1,k];calc aE (AK g) λi H e1=>aE (AK<|r.2.trans<|r.1.symm.trans g) λj I e2=>aE (AK<|r.1.symm.trans g) λu v e3=>?_;rw[e1,e2] at p;rw[e1,e2,e3] at hc;rw[e3];calc p u v hc.c.1 hc.c.2.c.1
theorem SW(u:Tm):(fT u).rows.length=u.rows.length+1:=by rw[Dr,qF];rfl
theorem Bg(u v:Tm):(pT u v).rows.length=u.rows.length+v.rows.length+1:=by rw[Dr,qF,qF];rfl
theorem DP(h:t∈jS a b):t.rows.length=1:=(dD.mp h).elim (λe=>e▸rfl) λh=>(dD.mp h).elim (λe=>e▸rfl) λh=>ci.mp h▸rfl
theorem AZ(h:(fT u).rows.length=n+1):u.rows.length=n:=qy<|(SW u).symm.trans h
theorem LC(G:Good e s){C F:List Tm}{n:Nat}{a b:Nat}{t:Tm}(h:du s a b t)(hz:t.rows.length=n+1+1)(f:∀x∈ir s,∀y∈ir s,∀u,du s x y u->u.rows.length=n+1->u∈F)(hf:∀u∈F,fT u∈C)(p:∀x∈fQ s,∀y∈fQ s,∀u v,du s x.1 y.1 u->du s x.2 y.2 v->u.rows.length+v.rows.length=n+1->pT u v∈C):t∈C:=zy G (P:=λt=>t.rows.length=n+1+1->t∈C) h (λt l hz=>nomatch (DP l).symm.trans hz) (λx g y hy u j hz=>hf u<|f x g y hy u j<|AZ hz) (λx g y hy u v j m hz=>p x g y hy u v j m<|qy<|(Bg u v).symm.trans hz) hz
theorem mR(G:Good e s){t:Tm}(h:du s a b t)(hz:t.rows.length=1):t∈jS a b:=zy G (P:=λt=>t.rows.length=1->t∈jS a b) h (λt g Z=>g) (λx Z y Z u Z hz=>absurd (AZ hz)<|Cu<|iK u) (λx Z y Z u v Z Z hz=>absurd (aL (iK u)<|aL (kI ..)<|fO<|qy<|(Bg u v).symm.trans hz)<|gm _) hz
theorem JL{u v:Tm}(h:u.rows.length+v.rows.length=1){P:Prop}:P:=absurd (aL (pe (iK u)<|iK v)<|fO h)<|M3 1
theorem Ai{u v:Tm}(h:u.rows.length+v.rows.length=2):u.rows.length=1/\v.rows.length=1:=(aq 0xaf683681604f431218238) h (iK u)<|iK v
theorem Ih{u v:Tm}(h:u.rows.length+v.rows.length=3):(u.rows.length=1/\v.rows.length=2)\/(u.rows.length=2/\v.rows.length=1):=(aq 0x1bf0af683604f10af604f368160cf431218238) h (iK u)<|iK v
theorem tq(G:Good e s){a b:Nat}{t:Tm}(h:du s a b t)(hz:t.rows.length=2):t∈lh s:=zy G (P:=λt=>t.rows.length=2->t∈lh s) h (λt g hz=>nomatch (DP g).symm.trans hz) (λx j y hy u l hz=>ff j<|ff hy<|cL<|mR G l<|AZ hz) (λx Z y Z u v Z Z hz=>JL<|qy<|(Bg u v).symm.trans hz) hz
theorem Ga(G:Good e s){a b:Nat}{t:Tm}(h:du s a b t)(hz:t.rows.length=3):t∈uS s:=LC G h hz (λx Z y Z u=>tq G) (λu g=>dh _<|cL g) λx j y hy u v g l hz=>cn _<|EA j hy (mR G g (Ai hz).1)<|mR G l (Ai hz).2
theorem Qi(G:Good e s){a b:Nat}{t:Tm}(h:du s a b t)(hz:t.rows.length=4):t∈DE s:=LC G h hz (λx Z y Z u=>Ga G) (λu j=>dh _<|cL j) λx l y hy u v j m hz=>cn _<|(Ih hz).elim (λh=>dh _<|EA (h:=λZ Z=>lh s) l hy (mR G j h.1)<|tq G m h.2) λh=>cn _<|EA (g:=λZ Z=>lh s) l hy (tq G j h.1)<|mR G m h.2
theorem IH{t:Tm}{g j l m:List Tm}{n:Nat}(p:n<=4)(hz:t.rows.length=n)(h1:t.rows.length=1->t∈g)(q:t.rows.length=2->t∈j)(r:t.rows.length=3->t∈l)(z:t.rows.length=4->t∈m):t∈g++(j++(l++m)):=((aq 0x1bf1bf1bf602f160cf1604f1681202f3631218) p hz<|iK t).elim (λh=>dh _<|h1 h) λh=>cn _<|h.elim (λh=>dh _<|q h) λh=>cn _<|h.elim (λh=>dh _<|r h) λh=>cn _<|z h
theorem Du(G:Good e s)(T:mI s){a b n:Nat}(j:n<=4){L:List Tm}(l:L.Nodup)(h:∀t∈L,du s a b t/\t.rows.length=n):L.length<=1000:=by calc aL (l.length_le_of_subset λt g=>IH j (h t g).2 (mR G (h t g).1) (tq G (h t g).1) (Ga G (h t g).1)<|Qi G (h t g).1) ?_;rw[bA,bA,bA];calc(ax 0x206f4445310cf206f4543410cf) (Nz G.nz T).1.1
noncomputable def vz(C D:List Tm):List (List Tm):=C.flatMap λt=>D.map λu=>[t,u]
theorem DV{C D:List Tm}{m n:Nat}(h:C.length<=m)(k:D.length<=n):(vz C D).length<=m*n:=IF h k
theorem JV(G:Good e s)(T:mI s){xs ys:List Nat}{n:Nat}(j:n<=3)(l:xs.length<=2){L:List<|List Tm}(m:L.Nodup)(h:∀g∈L,jG s xs ys g/\mQ g=n):L.length<=1000:=by
 have F:=Nz G.nz T;refine aL (m.length_le_of_subset (l₂:=[]::((jS (xs.getD 0 0) (ys.getD 0 0)++(lh s++(uS s++[]))).map (λt=>[t])++(vz (jS (xs.getD 0 0)<|ys.getD 0 0) (jS (xs.getD 1 0)<|ys.getD 1 0)++(vz (jS (xs.getD 0 0)<|ys.getD 0 0) (lh s)++vz (lh s) (jS (xs.getD 1 0)<|ys.getD 1 0))))) λg p=>?_) ?_
 .have h:=h g p
  cases g with
  |nil=>calc .head _
  |cons t g=>
   calc .tail _<|jV h.1 λx r y z q=>bV q λe1 e2 hc C=>?_;have hz:t.rows.length+mQ g=n:=(qF t g).symm.trans h.2;rw[e1,e2];cases g with
   |nil=>calc dh _<|cL<|IH (nf j) hz (mR G hc) (tq G hc) (Ga G hc) λh=>absurd (aL (fO h.symm)<|aL (fO hz) j)<|M3 3
   |cons u g=>
    calc jV C λH Z I Z q=>bV q λe3 D hd Z=>?_;have e:g=[]:=BF<|Nat.le_zero.mp<|rU<|rU<|aL (fO ((te h.1).1).symm) l;rw[e,qF] at hz;rw[e3,D,e];refine cn _<|((ax 0x1bf1bf0af683604f10af604f36810af68368120cf56544e31218238) j hz (iK t)<|iK u).elim (λh=>dh _<|ff (mR G hc h.1)<|cL<|mR G hd h.2) λh=>cn _<|h.elim (λh=>dh _<|ff (mR G hc h.1)<|cL<|tq G hd h.2) λh=>cn _<|ff (tq G hc h.1)<|cL<|mR G hd h.2
 .rw[bP,bA,au,bA,bA,bA,bA,bA] at|-;calc aL (iv<|oY (pe (DV (qU ..)<|qU ..)<|pe (DV (qU ..) F.2)<|DV F.2<|qU ..) _)<|(aq 0x206f4844bf444e310cf206f43414af) F.1.2
end
section
variable{c:Cx}{k:Nat}{V:Env}{O ah:al}{ρ:az}{CH CB CU CC:Addr}{a:cg}{s:Hp}{e:Nat}
structure Wc(c:Cx)(CH CB CU CC:Addr):Prop where
 w:Wd c CH CB CU
 cls:jp c CC
 heap:ic c CC<|ak "heap"
 known:ic c CC<|ak "known"
 common:df c CC (ak "common")<|bj (aK 16) 1
 limited:df c CC (ak "limited")<|bj (aK 16) 2
 shared:df c CC (ak "shared")<|bj (aK 16) 3
 spread:df c CC (ak "spread")<|bj (aK 16) 4
 most:∃t,c.mg (ak "MOST_PATTERNS")=some (.int 2000 t)
 LH:Glob c (ak "is_variable")<|aK 7
 parts:Glob c (ak "parts")<|aK 8
 matched:Glob c (ak "matched")<|aK 9
 JM:Glob c (ak "key_of")<|aK 10
 covered:Glob c (ak "is_covered")<|aK 14
 named:Glob c (ak "named")<|aK 15
 mA:fJ c "range"
 zip:fJ c "zip"
 LD:fJ c "enumerate"
structure ql where
 o:Addr
 dx:Addr
 kn:Addr
structure LU(C:Addr)(q:ql)(h:Addr)(O:al):Prop where
 ob:O q.o=some (.inst C q.dx)
 ns:∃n σ,n<=500/\O q.dx=some (.ns n σ)/\σ (ak "heap")=some (.ref h)/\σ (ak "known")=some (.ref q.kn)/\∀x,x≠ak "heap"->x≠ak "known"->σ x=none
noncomputable def yo(s:Hp)(a b n:Nat)(g:List Tm):Prop:=g.Nodup/\∀t,t∈g↔du s a b t/\t.rows.length=n
noncomputable abbrev Kn:=List<|(Nat×Nat×Nat)×List Tm
noncomputable def kD(x:Nat×Nat×Nat):Dt:= .tup [.int (x.1:Nat),.int (x.2.1:Nat),.int (x.2.2:Nat)]
noncomputable def lD(g:List Tm):Dt:= .lst<|g.map Tm.dt
noncomputable def iF(K:Kn):List (Dt×PV):=K.map λe=>(kD e.1,.d<|lD e.2)
noncomputable def pY(s:Hp)(K:Kn):Prop:=(K.map (·.1)).Nodup/\∀e∈K,e.1.1<7/\e.1.2.1<7/\e.1.2.2<5/\yo s e.1.1 e.1.2.1 e.1.2.2 e.2
structure Co(CH CB CU CC:Addr)(a:cg)(s:Hp)(q:ql)(O:al)(K:Kn):Prop where
 at_:LU CC q a.h O
 hp:bN CH CB CU a O s
 kn:O q.kn=some (.aM<|iF K)
 ok:pY s K
 ne:q.kn∉a.own s
 n1:q.kn≠q.o
 n2:q.kn≠q.dx
noncomputable def Kb(x:Addr)(O ah:al):Prop:=∀b,b≠x->O b≠none->ah b=O b
theorem Kb.refl:Kb x O O:=λZ Z Z=>rfl
theorem Kb.trans(h:Kb x O ah)(h':Kb x ah g):Kb x O g:=λb hb j=>(h' b hb<|by rw[h b hb j];calc j).trans<|h b hb j
theorem Kp.kb(h:Kp O ah):Kb x O ah:=λb Z g=>h b g
theorem Co.same{q:ql}{K j:Kn}(X:Co CH CB CU CC a s q O K)(h:Kb q.kn O ah)(hk:ah q.kn=some (.aM<|iF j))(ok:pY s j):Co CH CB CU CC a s q ah j:=by calc aE X.at_.ns λn σ l=>aN l λp g r=>{at_:=⟨(h _ (cI X.n1)<|by rw[X.at_.ob];simp).trans X.at_.ob,n,σ,p,(h _ (cI X.n2)<|by rw[g];simp).trans g,r⟩,hp:=X.hp.same λb hb=>h b (λe=>X.ne<|e▸hb)<|ai (X.hp.some hb) λm e=>?_,kn:=hk,ok:=ok,ne:=X.ne,n1:=X.n1,n2:=X.n2};rw[e];simp
theorem Co.keep{q:ql}{K:Kn}(X:Co CH CB CU CC a s q O K)(h:Kp O ah):Co CH CB CU CC a s q ah K:=X.same h.kb ((h _<|by rw[X.kn];simp).trans X.kn) X.ok
theorem sL{C:Addr}{q:ql}{h:Addr}(X:LU C q h O)(m:jp c C){x:Str}{st:Stmt}(M:df c C x st)(h1:x≠ak "heap"/\x≠ak "known"){P:Value->List PV->Prop}(p:∀f,Fn c f st->P (.ref f) [.ref q.o]):nL c (.ref q.o) x O P:=by calc aE X.ns λn σ g=>fi g λZ j Z Z l=>?_;obtain⟨f,hm,hk,r⟩:=M;calc yp X.ob j (l x h1.1 h1.2) m hm<|p f r
theorem Ex(W:Wc c CH CB CU CC)(F:Fn c f<|bj (aK 16) 2)(h:∀{k:Nat} {Q:PV->al->Prop},Q (.d<|.int (m:Nat)) O->aW c k (.builtin "len") [p] O Q)(hm:m<=2000)(q:Q (.d .none) O):aW c (k+1) (.ref f) [.ref o,p] O Q:=by have g:=W.w.len;calc ai W.most λt j=>cY F rfl λV l=>?_;lk;calc h<|Vr (by tm_at"k") (by decide) j<|TW ⟨_,rfl,cy (decide_eq_false<|(aB 0xd08f01f14cf236f1) hm) ?_⟩;lk;calc q
theorem Bm{a b:Nat}(g:a<7)(hb:b<7):gT (vStr a b)/\isQ (vStr a b)=true:=by
 have:∀a b:Fin 7,(gp (vStr a.val b.val)=true/\1<=(vStr a.val b.val).cps.size/\(vStr a.val b.val).cps.size<=1000)/\isQ (vStr a.val b.val)=true:=by decide+kernel
 calc this ⟨a,g⟩ ⟨b,hb⟩
theorem qb.Ix(h:qb x):gT x/\isQ x=false:=by rcases h with rfl|rfl|rfl|rfl<;>calc⟨⟨by decide+kernel,by decide+kernel,by decide+kernel⟩,by decide+kernel⟩
theorem fx.kids(G:Good e s)(h:fx s r n):∀x∈n.kids,x<s.nodes.length:=by obtain⟨i,m,hm,_,rfl⟩:=h;calc λx p=>ai (bb.mp p) λj g=>aw g λhj l=>?_;clear g;clear p;subst l;have hi:=(dJ.mp hm).1;have:=lN G.cH (a:=j) (by rw[G.pl];calc(ax 30894413649) hi<|G.lt i m hm j hj);rw[<-G.pl];calc this
theorem Mh(G:Good e s):(∀(t:Tm) (a b:Nat),a<s.nodes.length->b<s.nodes.length->du s a b t->∀r∈t.rows,gT r.str/\(isQ r.str=true->r.kids=[]))/\∀(j:List Tm) (xs ys:List Nat),(∀x∈xs,x<s.nodes.length)->(∀x∈ys,x<s.nodes.length)->jG s xs ys j->∀r∈Tm.bx j,gT r.str/\(isQ r.str=true->r.kids=[]):=by
 refine Tm.ind (λx j l a b H hb h=>?_) (λZ Z Z Z Z=>dF) λt j p z xs ys g hy h=>?_
 .refine wT (show _\/_ from h) (λh=>?_) λh=>aE h λm n q=>fi q λhm I h1 Z hc=>?_
  .rw[h.1,h.2];exact fa ⟨(Bm (fL H G.nz)<|fL hb G.nz).1,λZ=>rfl⟩ dF
  .have:=(G.wh hm).ok.1.Ix;rw[h1] at this;exact fa ⟨this.1,λJ=>vj<|J.symm.trans this.2⟩<|l m.kids n.kids (hm.kids G) (I.kids G) hc
 .refine jV h λx C y D q=>bV q λe1 e2 h1 L=>?_;rw[e1] at g;rw[e2] at hy;have g:=mZ.mp g;have hy:=mZ.mp hy;calc λr N=>(ca.mp N).elim (p x y g.1 hy.1 h1 r)<|z C D g.2 hy.2 L r
theorem JT(G:Good e s):∀(t:Tm) (a b:Nat),a<s.nodes.length->b<s.nodes.length->du s a b t->∀r∈t.rows,gT r.str/\(isQ r.str=true->r.kids=[]):=(Mh G).1
theorem Wr(G:Good e s):∀(g:List Tm) (xs ys:List Nat),(∀x∈xs,x<s.nodes.length)->(∀x∈ys,x<s.nodes.length)->jG s xs ys g->∀r∈Tm.bx g,gT r.str/\(isQ r.str=true->r.kids=[]):=(Mh G).2
theorem xK(G:Good e s){t:Tm}{a b:Nat}(j:a<s.nodes.length)(hb:b<s.nodes.length)(h:du s a b t)(hz:t.rows.length<=5):fc t:=⟨⟨hz,λr g=>(JT G t a b j hb h r g).1⟩,λr g=>(JT G t a b j hb h r g).2⟩
theorem VV:(∀t u:Tm,oi t.dt u.dt)/\∀l m:List Tm,pC (Tm.kM l) (Tm.kM m):=by
 refine Tm.ind (λs l g=>?_) ?_ λt r h j=>?_
 .intro u
  cases u with
  |nd s' p=>exact⟨λZ=>g p,λZ=>trivial⟩
 .intro m;cases m<;>exact trivial
 .intro q
  cases q with
  |nil=>calc trivial
  |cons u us=>calc⟨λZ=>j us,λZ=>h u⟩
theorem To:∀t u:Tm,oi t.dt u.dt:=(VV).1
noncomputable def Tm.row(t:Tm):List Dt:= .str t.str::t.kids.map Tm.dt
theorem Tm.uF(t:Tm):t.dt= .tup t.row:=t.jv
theorem Xs{L:List Tm}(h:∀t∈L,cN t):Rows (L.map Tm.row) where
 keys:=λl g=>ai (bb.mp g) λt q=>q.2▸(show Dt.key (.tup t.row)=true from t.uF▸(h t q.1).key.key)
 deep:=λl g=>ai (bb.mp g) λt q=>q.2▸aL (ja<|show Dt.depth (.tup t.row)<=6 from t.uF▸(h t q.1).key.dZ) (lb rfl)
 head:= .inl λl g=>ai (bb.mp g) λt q=>bv _ _ q.2.symm
 cmp:=λl g m hm=>ai (bb.mp g) λt q=>ai (bb.mp hm) λu r=>q.2▸r.2▸(show oi (.tup t.row) (.tup u.row) from t.uF▸u.uF▸To t u)
theorem aW.up(h:aW c k f g O Q)(hk:k<=j):aW c j f g O Q:= .mk λA B R s vs r S l=>h.1 A B R s vs ⟨r.handled,by have:=r.depth;calc(ax 0x227f431253227f451) hk this,by have:=r.units;calc(aV 0x25423f422f312a325423f422fa1) hk this⟩ S l
noncomputable def jI(g:List Tm):Dt:= .tup<|g.map Tm.dt
noncomputable def Nj(xs:List Nat):Dt:= .tup<|xs.map λi=> .int (i:Nat)
noncomputable def qH(s:Hp)(i:Nat):Prop:=i<s.nodes.length/\root s.par i=i
noncomputable def xZ(c:Cx)(CH CB CU CC:Addr)(a:cg)(s:Hp)(q:ql)(L n:Nat):Prop:=∀(f:Addr) (i j:Nat) (O:al) (K:Kn) (Q:PV->al->Prop),Fn c f (bj (aK 16) 3)->Co CH CB CU CC a s q O K->qH s i->qH s j->(∀ah h g,Co CH CB CU CC a s q ah h->Kb q.kn O ah->yo s i j n g->Q (.d<|lD g) ah)->aW c L (.ref f) [.ref q.o,aY i,aY j,aY n] O Q
theorem QC{T:List<|List Tm}(h:∀j∈T,∀t∈j,cN t):mU (.lst<|T.map jI):=by have k:=JR (f:=jI) λj g=>⟨(Bt<|h j g).1,(Bt<|h j g).2.1⟩;calc⟨k.1,k.2,iv<|AJ (n:=39) λj g=>iv<|aL (Bt<|h j g).2.2<|lb rfl⟩
theorem Co.push{q:ql}{K:Kn}(X:Co CH CB CU CC a s q O K){x:Addr}{m:MO}(g:O x=none):Co CH CB CU CC a s q (upd O x m) K:=X.keep λb hb=>aC λe:b=x=>hb<|e▸g
theorem xZ.up(h:xZ c CH CB CU CC a s q L n)(g:L<=l):xZ c CH CB CU CC a s q l n:=λf i j O K Q F X hi hj m=>(h f i j O K Q F X hi hj m).up g
noncomputable def vF(q:ql)(fl:Addr)(T:List<|List Tm)(gx O:al):Prop:=O fl=some (.lst<|T.map λg=>PV.d<|jI g)/\∀b,b≠q.kn->b≠fl->gx b≠none->O b=gx b
theorem Qe(n m:Nat):((n:Int) -((m+1:Nat):Int)+2 -1).toNat=n -m:=by rw[show((n:Int) -((m+1:Nat):Int)+2 -1)=n -m from(aq 0x16f24f01f301f124f11f1ef33f24f01fc01f1)];calc Int.toNat_sub n m
theorem Xa(W:Wc c CH CB CU CC)(G:Good e s)(T2:mI s)(a5:m<=3)(c8:∀n,1<=n->n<=m->xZ c CH CB CU CC a s q (L+1) n):∀(xs ys:List Nat) (n:Nat) {f:Addr} {O:al} {K:Kn} {Q:PV->al->Prop},n<=m->xs.length=ys.length->xs.length<=2->(∀x∈xs,qH s x)->(∀x∈ys,qH s x)->Fn c f (bj (aK 16) 4)->Co CH CB CU CC a s q O K->(∀ah K' (T:List<|List Tm),Co CH CB CU CC a s q ah K'->Kb q.kn O ah->T.Nodup->(∀p,p∈T↔jG s xs ys p/\mQ p=n)->Q (.d<|.lst<|T.map jI) ah)->aW c (L+1+xs.length+1) (.ref f) [.ref q.o,.d<|Nj xs,.d<|Nj ys,aY n] O Q:=by
 intro c9;induction c9 with
 |nil=>
  intro ys n f O K Q I hl h2 hx hy F X q0;have b6:=W.w.len;obtain rfl:ys=[]:=BM.mp hl.symm;calc cY F rfl λV b7=>?_;lk;calc kZ (lb rfl) ?_;lk;calc fe et et ⟨_,rfl,cB (decide_eq_true<|rfl)<|aU<|eX<|Dy ?_⟩;lk;refine fe et et ⟨_,rfl,?_⟩
  have hc:∀p,jG s [] [] p/\mQ p=n↔p=[]/\n=0:=λp=>by
   constructor
   .intro j;calc aw j λh hs=>?_;have:p=[]:=BM.mp (te h).1.symm;clear j h;subst this;exact⟨rfl,hs.symm⟩
   .intro j;calc aw j λl J=>?_;clear j;subst l;clear I q0;subst J;calc⟨?_,rfl⟩;exact(⟨rfl,rfl⟩:_/\_)
  by_cases h0:n=0
  .refine cB (decide_eq_true<|by rw[h0];rfl)<|iG<|ba<|cT ?_;lk;calc⟨lb rfl,.inl ⟨[],rfl,?_⟩⟩;lk;exact⟨lb rfl,[.tup []],rfl,q0 O K [[]] X Kb.refl uM λp=>by rw[hc,ci];calc⟨λh=>⟨h,h0⟩,λh=>h.1⟩⟩
  .refine cy (decide_eq_false<|by rw[Dt.int.injEq];calc(aB 0xd16f12f01f1d6e1) h0)<|iG ?_;lk;calc⟨lb rfl,[],rfl,q0 O K [] X Kb.refl hX λp=>by rw[hc];calc⟨λh=>(cX h),λh=>absurd h.2 h0⟩⟩
 |cons x xs ih=>
  intro d0;cases d0 with
  |nil=>
   intro n f O K Q I hl h2 hx hy F X q0;cases hl
  |cons y ys=>
   intro n f O K Q I hl h2 hx hy F X q0;have b6:=W.w.len;have d1:qH s x:=hx x dC;have d2:qH s y:=hy y dC;have P:xs.length<=1:=by rw[bP] at h2;exact(aB 672269563) h2
   have N:xs.length=ys.length:=by simpa using hl
   calc cY F rfl λV b7=>?_;lk;calc kZ (by unfold small;simp;calc(aq 2374867883569) P N) ?_;lk;calc fe et et ⟨_,rfl,cy (decide_eq_false<|by rw[Dt.int.injEq];simp;calc(aq 0xd16f12f1ef11f01f1281631) P N)<|cE<|aU<|cz<|iV ?_⟩;lk;calc⟨lb rfl,λfl a6=>?_⟩;have X1:=X.push (m:= .lst []) a6;have b0:fl≠q.kn:=λe=>by rw[e,X.kn] at a6;exact cU a6
   have b8:vF q fl [] O (upd O fl<|.lst []):=⟨bo,λb _ hb _=>aC hb⟩;generalize upd O fl (.lst [])=f2 at X1 b8;lk;calc gD (λ_=>rfl)<|mV (by rfl) (by rfl)<|gO (by tm_at"k") (by decide) W.mA.1 W.mA.2 ⟨_,rfl,.ty,?_⟩;lk;calc kZ (by unfold small;simp;calc(aq 2374867883569) P N) ?_;lk;calc AU ((dL 0xaf0ef17f11f0ef11f25f17f)) (by simp;calc(aV 0xaf0ef17f1ef33f24f1ef11f01f301f10ef1ef33f24f1ef11f01f301f125f17f20cf52512836a3) a5 I P N) ?_;rw[show(((n:Int) -((qB (λi:Nat=>Dt.int (i:Int)) (x::xs)).length:Int)+2 -1)).toNat=n -xs.length by rw[au];calc Qe n xs.length];refine forR (b:=1) (n:=n -xs.length) [ak "first",ak "late",ak "pattern"] (λi ah=>∃(T:List<|List Tm) (K:Kn),Co CH CB CU CC a s q ah K/\vF q fl T O ah/\T.Nodup/\∀p,p∈T↔(jG s (x::xs) (y::ys) p/\mQ p=n)/\∃t r,p=t::r/\t.rows.length<i) rfl ⟨[],K,X1,b8,hX,λp=>?_⟩ ?_ ?_
   .constructor
    .intro h;exact cX h
    .intro j;calc aw j λ_ l=>aE l λt r J=>aw J λZ h=>?_;clear l J j;subst Z;exact absurd h<|lX.mpr<|iK t
   .intro i ah a7 Q1 a8 d3 j ag b9;calc aE j λT K l=>bV l λX' hL hT S=>ai (rg d3) λcnt D=>?_;have r1:=ag.tr (x:=ak "self") rfl rfl;have r2:=ag.tr (x:=ak "some") rfl rfl;have r3:=ag.tr (x:=ak "others") rfl rfl
    ·
     have d4:i<=n -xs.length:=(aV 0x2953164895340df1) D;have c0:((n:Int) -(i:Int))=((n -i:Nat):Int):=(cK 0x16f01f93124f01f301f12856a523864895142bf329513) P N a8 D d4;tm_at"1";calc aU<|cz ?_;tm_at"m";calc bJ r1<|sL X'.at_ W.cls W.spread (by decide+kernel) λg hg=>ba<|Ap ?_;tm_at"c";calc il (lb rfl) (by unfold small;simp;calc(aq 2374867883569) P N)<|ba<|Ap ?_;tm_at"c";calc il (lb rfl) (by unfold small;simp;calc(aq 2374867891731) P N)<|ba<|iD<|bJ (ag.tr rfl rfl) ?_;lk;rw[c0];calc aW.up (ih ys (n -i) ((cK 0x25931251238648900f140df3) I a8 D) N ((aq 2220249060913) P N) (λw hw=>hx w<|dw _ hw) (λw hw=>hy w<|dw _ hw) hg X' λd5 K2 C X2 c1 b3 a3=>?_) (by rw[bP];calc(aq 9876833339));have b2:∀p∈C,∀t∈p,cN t:=λp b4 t ht=>by calc aw ((a3 p).mp b4) λh1 h2=>?_;have hr:=Wr G p xs ys (λw hw=>(hx w<|dw _ hw).1) (λw hw=>(hy w<|dw _ hw).1) h1;calc⟨?_,λr d6=>(hr r<|LG ht d6).1⟩;have:=MP ht;exact(oo 0x20bf120cf32352a8648907f542bfa69a513f213f1) a5 I a8 D h2 this
     have a1:C.length<=1000:=JV G T2 (n:=n -i) ((cK 0x20cf93120cf5251238648900f140df3) a5 I a8 D) (show xs.length<=2 from(aq 2220249060913) P N) b3 λp h=>(a3 p).mp h;have L2:vF q fl T O d5:=⟨(c1 fl b0<|by rw[hL.1];simp).trans hL.1,λb hb H I=>(c1 b hb<|by rw[hL.2 b hb H I];calc I).trans<|hL.2 b hb H I⟩;have f3:∀{v:PV} {w:Str},w≠ak "late"->w≠ak "first"->aZ (aZ a7 (ak "first")<|PV.d<|.int (i:Int)) (ak "late") v w=a7 w:=λh1 h2=>by unfold aZ;rw[if_neg h1,if_neg h2]
     lk;calc iG ?_;lk;refine⟨lb rfl,[],rfl,kU (QC b2) vq ⟨_,rfl,?_⟩⟩
     have split:∀p,(jG s (x::xs) (y::ys) p/\mQ p=n)/\(∃t r,p=t::r/\t.rows.length=i)↔∃t r,p=t::r/\(du s x y t/\t.rows.length=i)/\r∈C:=λp=>by
      constructor
      .intro j;calc aw j λl J=>aE J λt r Z=>aw Z λd7 h3=>?_;clear J Z j;calc aw l λh1 h2=>?_;clear l;subst d7;calc jV h1 λ_ _ _ _ j=>bV j λe1 e2 g1 g2=>aw (dN e1) λj l=>?_;subst j;clear e1;subst l;calc aw (dN e2) λj l=>?_;subst j;clear j e2;subst l;rw[qF] at h2;exact bv t r<|aR rfl ⟨g1,h3⟩<|(a3 r).mpr ⟨g2,(dU 0x69531648900f340df56507f634107f) D h3 h2⟩
      .intro j;calc aE j λt r l=>aN l λJ Z hr=>?_;clear l j;subst J;calc aw Z λg1 h3=>aw ((a3 r).mp hr) λg2 g3=>⟨⟨?_,by rw[qF];calc(dU 0x65431648907f542bfa6a169a53) D h3 g3⟩,bv t r ⟨rfl,h3⟩⟩;exact oG x xs y ys<|cx rfl rfl g1 g2
     by_cases c2:C=[]
     .clear a3 b3 b2 a1;subst c2;calc cy (by rw[yU,decide_eq_true rfl];rfl)<|cE<|cE<|b9 _ _ ⟨T,K2,X2,L2,hT,λp=>?_⟩<|(ag.set rfl).set rfl;rw[S];calc and_congr_right λh=>⟨λz=>aE z λt r y=>bv t r ⟨y.1,tU y.2⟩,λz=>aE z λt r y=>bv t r ⟨y.1,?_⟩⟩;by_cases h3:t.rows.length=i
      .exact aE ((split p).mp ⟨h,bv t r ⟨y.1,h3⟩⟩) λ_ _ j=>aN j λ_ _ h=>cX h
      .exact Nat.lt_of_le_of_ne (ng y.2) h3
     .refine cB (by rw[decide_eq_false λh=>c2 (by have:=Dt.lst.inj h;simpa using this)];rfl)<|aU<|gD (λ_=>rfl)<|eJ ?_;tm_at"m";calc bJ r1<|sL X2.at_ W.cls W.shared (by decide+kernel) λg hg=>ba<|jA (λ_ _=>by rfl)<|bJ r2 ?_;lk;calc eY (eT) (eV) rfl<|ba<|jA (λ_ _=>by rfl)<|bJ r3 ?_;lk;calc eY (eT) (eV) rfl ?_;lk;calc aW.up (c8 i a8 ((cK 0x231235648900f540df1) I D) _ _ _ _ _ _ hg X2 d1 d2 λd8 K3 ps X3 c3 a0=>?_)<|(ax 637422089143539) hl h2;have L3:vF q fl T O d8:=⟨(c3 fl b0<|by rw[L2.1];simp).trans L2.1,λb hb H I=>(c3 b hb<|by rw[L2.2 b hb H I];calc I).trans<|L2.2 b hb H I⟩;have c4:ps.length<=1000:=Du G T2 (n:=i) ((cK 0x202f120cf3235648900f540df1) a5 I D) a0.1 λt h=>(a0.2 t).mp h;refine⟨_,rfl,forL (g:=λt=>PV.d t.dt) [ak "pattern"] (λdone ah=>∃Y:List<|List Tm,Co CH CB CU CC a s q ah K3/\vF q fl Y O ah/\Y.Nodup/\∀p,p∈Y↔p∈T\/∃t∈done,∃r∈C,p=t::r) (bg ..) ⟨T,X3,L3,hT,λp=>by simp⟩ ?_ ?_⟩
      .intro done t f0 ah a7 Q2 hd j a2 d9;refine ai j λY l=>bV l λX' L' b5 U=>?_
       ·
        have e0:t∈ps:=mid hd;have e4:t∉done:=λhm=>by have:=a0.1;rw[hd,rY] at this;exact this.2.2 t hm t dC rfl
        have c5:=((a0.2 t).mp e0).2
        have hN:(Y++C.map λr=>t::r).Nodup:=by
         rw[rY];calc aR b5 (b3.map _ λa b e5 h=>e5 (dN h).2) λu hu v hv e=>?_;subst e;calc ai (bb.mp hv) λr j=>aw j λhr l=>?_;clear j;clear hv;subst l;rcases(U _).mp hu with h|⟨t',e6,r',_,e⟩
         .refine aw ((S _).mp h) λ_ j=>aE j λt' r' l=>aw l λe h=>aw (dN e) λj _=>?_;clear l e;subst j;exact gm _<|(cK 0x7e86489a54c16100f7100f) D c5 h
         .refine aw (dN e) λj _=>?_;clear e;subst j;exact e4 e6
        have kN:∀p,p∈(Y++C.map λr=>t::r)↔p∈T\/∃u∈done++[t],∃r∈C,p=u::r:=wk U λp=>by rw[ca,bb];exact or_congr uA<|exists_congr λ_=>and_congr_right λ_=>eq_comm
        have a9:(Y++C.map λr=>t::r).length<=1000:=by
         calc JV G T2 (xs:=x::xs) (ys:=y::ys) (n:=n) ((dU 0x20cf120cf3231648900f140df56507f) a5 I D c5) h2 hN λp b4=>?_;rcases(kN p).mp b4 with h|⟨u,hu,r,hr,rfl⟩
         .exact((S p).mp h).1
         .have e7:u∈ps:=by
           rw[hd];rcases ca.mp hu with h|h
           .exact dh _ h
           .rw[ci.mp h];simp
          exact((split _).mpr<|bv u r<|aR rfl ((a0.2 u).mp e7) hr).1
        have c6:Y.length<=1000:=aL (by rw[bA];calc(aq 148241)) a9;tm_at"1";calc aU<|eG ?_;tm_at"m";calc bJ (a2.tr rfl<|ag.tr rfl rfl)<|ij L'.1 rT BJ<|ba<|gN (by rw[b7];rfl) (λ_=>rfl)<|eJ<|bJ (a2.tr rfl rfl)<|⟨_,rfl,?_⟩;rw[bg];refine An C (PV.d∘jI) (λr=>jI (t::r)) (by rfl) (iN a1) (λcenv f1 r hc TT hm=>?_) ?_
        .show cW _ _ _ _ _ (.d<|jI r) _ _;have e8:=(te ((a3 r).mp hm).1).1;tm_at"1";calc⟨TT.aZ (by rfl) _,iD<|cT<|ba<|cf (by unfold aZ;rw[if_neg (by decide),TT _ (by rfl)];rfl)<|iT ⟨lb rfl,.inl ⟨[t.dt],rfl,?_⟩⟩⟩;lk;exact qi (by rw[au,gG];calc(ax 0x205f418283653613) P N e8) ⟨rfl,rfl⟩
        lk;calc IM L'.1 (by rw[au,au];calc(aq 0x205f431206f3206f1) a1 c6) ?_;have e1:(Y.map λp=>PV.d<|jI p)++(C.map λr=>jI (t::r)).map PV.d=(Y++C.map λr=>t::r).map λp=>PV.d (jI p):=by rw[cb,bg,bg];rfl
        rw[e1]
        have X4:Co CH CB CU CC a s q (upd ah fl<|.lst<|(Y++C.map λr=>t::r).map λp=>PV.d<|jI p) K3:=by
         have b1:Kb q.kn O (upd ah fl<|.lst<|(Y++C.map λr=>t::r).map λp=>PV.d<|jI p):=λb hb I=>by have H:b≠fl:=λe=>I<|e▸a6;exact(aC H).trans<|L'.2 b hb H I
         exact X.same b1 ((aC<|cI b0).trans X'.kn) X'.ok
        have L4:vF q fl (Y++C.map λr=>t::r) O (upd ah fl<|.lst<|(Y++C.map λr=>t::r).map λp=>PV.d<|jI p):=⟨bo,λb hb H I=>(aC H).trans<|L'.2 b hb H I⟩;generalize upd ah fl (.lst<|(Y++C.map λr=>t::r).map λp=>PV.d<|jI p)=f4 at X4 L4|-;calc aU<|eG ?_;tm_at"m";calc bJ (a2.tr rfl r1)<|sL X4.at_ W.cls W.limited (by decide+kernel) λg hg=>ba<|bJ (a2.tr rfl<|ag.tr rfl rfl) ?_;lk;exact aW.up (Ex W hg (m:=(Y++C.map λr=>t::r).length) (λ{k Q} q=>jm L4.1 (by rw[au];calc iN a9)<|by rw[au];calc q) ((aB 152187307761) a9)<|cE<|d9 _ _ ⟨_,X4,L4,hN,kN⟩<|a2.set rfl)<|Pb 1 _
      .intro ah a7 j a2;calc ai j λY l=>bV l λX' L' b5 U=>cE<|cE<|b9 _ _ ⟨Y,K3,X',L',b5,λp=>?_⟩<|a2.up rfl<|(ag.set rfl).set rfl;rw[U,S];constructor
       .rintro (⟨h,t,r,e,h'⟩|⟨t,ht,r,hr,rfl⟩)
        .exact⟨h,bv t r ⟨e,(dU 0x7c1648900fa403f36a07f731) D h.2 h'⟩⟩
        .have h:=(split _).mpr<|bv t r<|aR rfl ((a0.2 t).mp ht) hr;exact⟨h.1,bv t r ⟨rfl,by have:=((a0.2 t).mp ht).2;calc(dU 0x7c1648900fa403f36a07f631) D h.1.2 this⟩⟩
       .intro j;calc aw j λh l=>aE l λt r J=>aw J λZ h'=>?_;clear l J j;subst Z;by_cases h3:t.rows.length=i
        .exact aE ((split _).mp ⟨h,bv t r ⟨rfl,h3⟩⟩) λt' r' j=>aN j λe g1 g2=> .inr ⟨t',(a0.2 t').mpr g1,r',g2,e⟩
        .exact .inl ⟨h,bv t r ⟨rfl,(dU 0x731648900fa403f37c16a07fd631) D h' h.2 h3⟩⟩
   .intro ah a7 j ag;refine aE j λT K l=>bV l λX' hL hT S=>aU<|eX<|Br<|bJ (ag.tr rfl rfl)<|⟨fl,_,_,rfl,hL.1,.inl ⟨T.map jI,by rw[bg];rfl,rfl⟩,?_⟩
    have b1:Kb q.kn O (del ah fl):=λb hb I=>by unfold del;have H:b≠fl:=λe=>I<|e▸a6;rw[if_neg H];exact hL.2 b hb H I
    have X5:Co CH CB CU CC a s q (del ah fl) K:=X.same b1 (by unfold del;rw[if_neg (cI b0)];calc X'.kn) X'.ok;calc q0 _ K T X5 b1 hT λp=>?_;rw[S];calc⟨λh=>h.1,λh=>⟨h,?_⟩⟩;have c7:=te h.1;cases p with
    |nil=>cases c7.1
    |cons t r=>
     calc bv t r ⟨rfl,?_⟩;have h3:=h.2;rw[qF] at h3;have:=Rt r;have e9:xs.length=r.length:=by simpa using c7.1
     calc(cK 0x74900f5816543123a6a00f) h3 this e9
noncomputable def eI(L:List Tm):List (Dt×PV):=L.map λt=>(t.dt,.d<|.bool true)
theorem yi(L:List Tm):(eI L).map (·.1)=L.map Tm.dt:=by unfold eI;rw[bg];rfl
theorem Kg:dput (eI L) t.dt (.d<|.bool true)=eI (if t∈L then L else L++[t]):=by
 unfold dput;rw[yi];have hi:t.dt∈L.map Tm.dt↔t∈L:=by rw[bb];exact⟨λz=>ai z λu y=>Tm.pE _ _ y.2▸y.1,λh=>⟨t,h,rfl⟩⟩
 by_cases h:t∈L
 .rw[if_pos (hi.mpr h),if_pos h];unfold eI;rw[bg];calc gZ λu g=>?_;show(if u.dt=t.dt then(u.dt,PV.d<|.bool true) else(u.dt,PV.d<|.bool true))=_;split<;>rfl
 .rw[if_neg λx=>h<|hi.mp x,if_neg h];unfold eI;rw[cb];rfl
theorem zF(h:kD x=kD y):x=y:=by obtain⟨g,l,m⟩:=x;obtain⟨j,p,q⟩:=y;unfold kD at h;rw[Dt.tup.injEq,tZ,tZ,tZ,Dt.int.injEq,Dt.int.injEq,Dt.int.injEq] at h;calc bV h λh1 r z Z=>?_;have h1:(g:Int)=j:=h1;rw[show g=j from(dU 0x63116f01f301f116f01fa01f516f01f07f01f00f) h.1 h.2.1 h.2.2.1,show l=p from(aq 0x63116f01f301f1) r,show m=q from(aq 0x63116f01f301f1) z]
theorem Qk(x:Nat×Nat×Nat):Key (kD x):=⟨rfl,lb rfl⟩
theorem Bk(K:Kn):(iF K).map (·.1)=(K.map (·.1)).map kD:=by unfold iF;rw[bg,bg];rfl
theorem Vt{K:Kn}{x:Nat×Nat×Nat}{p:PV}(h:dH (iF K) (kD x)=some p):∃l,(x,l)∈K/\p= .d (lD l):=by unfold dH iF at h;calc ai (jX.mp h) λy g=>aw g λhy j=>?_;clear g;subst j;have h1:=tO hy;have m:=wF hy;calc ai (bb.mp h1) λz g=>aw g λhz j=>?_;clear g;clear hy h1 h;subst j;calc⟨z.2,by rw[<-(zF<|of_decide_eq_true m)];calc hz,rfl⟩
theorem Tz{K:Kn}(l:(K.map (·.1)).Nodup)(h:(x,m)∈K):dH (iF K) (kD x)=some (.d<|lD m):=by calc ai (gk.mp h) λj hj=>wg (j:=j) ?_ (by unfold iF;rw[dm,hj];rfl);rw[Bk];calc l.map _ λa b g e=>g<|zF e
theorem QE{K:Kn}(h:pY s K):K.length<=245:=by
 have hs:(K.map (·.1))⊆(cS 7).flatMap λi=>(cS 7).flatMap λj=>(cS 5).map λn=>(i,j,n):=λx m=>by calc ai (bb.mp m) λz g=>aw g λhz l=>?_;clear g;clear m;subst l;exact bV (h.2 z hz) λh1 p q Z=>gI.mpr ⟨z.1.1,eM.mpr h1,gI.mpr ⟨z.1.2.1,eM.mpr p,bb.mpr ⟨z.1.2.2,eM.mpr q,rfl⟩⟩⟩
 have:=h.1.length_le_of_subset hs;rw[au] at this;calc aL this<|by decide+kernel
theorem pY.more{K:Kn}(h:pY s K){x:Nat×Nat×Nat}(j:dH (iF K) (kD x)=none)(h1:x.1<7)(l:x.2.1<7)(m:x.2.2<5)(hp:yo s x.1 x.2.1 x.2.2 p):pY s (K++[(x,p)]):=by
 have g:=Ir j;rw[Bk] at g;refine⟨?_,λz hz=>?_⟩
 .rw[cb];exact kg h.1 λh=>g<|cL h
 .rcases ca.mp hz with hz|hz
  .exact h.2 z hz
  .rw[ci.mp hz];calc cx h1 l m hp
theorem Ll(h:gp x=true):mU (.tup [.str x,.int n]):=⟨jx h rfl,rfl,lb rfl⟩
theorem fx.Ds(G:Good e s)(h:fx s r n):∀x∈n.kids,qH s x:=λx p=>by
 calc⟨h.kids G x p,?_⟩;obtain⟨i,m,hm,_,rfl⟩:=h;calc ai (bb.mp p) λj g=>aw g λhj q=>?_;clear g;clear p;subst q;have hi:=(dJ.mp hm).1;have l:j<s.par.length:=by rw[G.pl];exact(ax 30894413649) hi<|G.lt i m hm j hj
 rw[nN G.cH (lN G.cH l),if_pos (qZ G.cH j l)]
noncomputable def Gen(s:Hp)(n:Nat)(m o:Nd)(t:Tm):Prop:=m.op=o.op/\∃g,t= .nd m.op g/\jG s m.kids o.kids g/\mQ g+1=n
noncomputable def Base(a b n:Nat)(t:Tm):Prop:=n=1/\t=vT a b
theorem yn(t:Tm):(du s i j t/\t.rows.length=n)↔Base i j n t\/∃m,fx s i m/\∃o,fx s j o/\Gen s n m o t:=by
 cases t with
 |nd x r=>
  rw[Dr];constructor
  .intro g;calc aw g λl hz=>?_;clear g;rcases l with⟨rfl,rfl⟩|⟨m,o,hm,p,rfl,q,hc⟩
   .exact .inl ⟨hz.symm,rfl⟩
   .exact .inr ⟨m,hm,o,p,q.symm,r,rfl,hc,hz⟩
  .rintro (⟨rfl,h⟩|⟨m,hm,o,p,q,z,e,hc,hz⟩)
   .unfold vT at h;calc aw (Tm.nd.inj h) λg l=>?_;subst g;clear h;subst l;exact⟨Or.inl ⟨rfl,rfl⟩,rfl⟩
   .refine aw (Tm.nd.inj e) λg l=>?_;subst g;clear e;subst l;calc⟨Or.inr<|bv m o<|km hm p rfl q.symm hc,hz⟩
theorem pY.put{K:Kn}(h:pY s K){x:Nat×Nat×Nat}{j:List Tm}(h1:x.1<7)(C:x.2.1<7)(D:x.2.2<5)(hp:yo s x.1 x.2.1 x.2.2 j):∃l,dput (iF K) (kD x) (.d<|lD j)=iF l/\pY s l/\(x,j)∈l:=by
 by_cases m:x∈K.map (·.1)
 .have hk:kD x∈(iF K).map (·.1):=by rw[Bk];exact cL m
  refine⟨K.map λe=>if e.1=x then(x,j) else e,aR ?_ ⟨?_,λz hz=>?_⟩<|ai (bb.mp m) λw g=>aw g λp e=>bb.mpr ⟨w,p,if_pos e⟩⟩
  .unfold dput;rw[if_pos hk];unfold iF;rw[bg,bg];calc gZ λz Z=>?_;show(if kD z.1=kD x then(kD z.1,PV.d<|lD j) else(kD z.1,PV.d<|lD z.2))=(λe:(Nat×Nat×Nat)×List Tm=>(kD e.1,PV.d<|lD e.2)) (if z.1=x then(x,j) else z);by_cases e:z.1=x
   .rw[if_pos e,if_pos<|by rw[e],e]
   .rw[if_neg e,if_neg λq=>e (zF q)]
  .have:(K.map λe=>if e.1=x then(x,j) else e).map (·.1)=K.map (·.1):=by
    rw[bg];calc gZ λz Z=>?_;show(if z.1=x then(x,j) else z).1=z.1;by_cases e:z.1=x
    .rw[if_pos e];exact e.symm
    .rw[if_neg e]
   rw[this];exact h.1
  .refine ai (bb.mp hz) λw g=>aw g λp r=>?_;clear g;clear hz;subst r;split
   .exact cx h1 C D hp
   .exact h.2 w p
 .have hk:kD x∉(iF K).map (·.1):=by
   rw[Bk];exact λhm=>ai (bb.mp hm) λy g=>aw g λhy e=>m<|zF e▸hy
  calc⟨K++[(x,j)],aR ?_ (h.more (yy hk) h1 C D hp)<|cn _<|.head _⟩;unfold dput;rw[if_neg hk];unfold iF;rw[cb];rfl
theorem D0{x y:Nat}(g:x<7)(hy:y<7):small (sk++ak "?"++ak (toString (x:Int))).length/\small (sk++ak "?"++ak (toString (x:Int))++ak "/").length/\small (vStr x y).length:=by
 have:∀x y:Fin 7,(sk++ak "?"++ak (toString (x.val:Int))).length<=1000000/\(sk++ak "?"++ak (toString (x.val:Int))++ak "/").length<=1000000/\(vStr x.val y.val).length<=1000000:=by decide+kernel
 calc this ⟨x,g⟩ ⟨y,hy⟩
noncomputable def DictAt(q:ql)(g:Addr)(L:List Tm)(gx O:al):Prop:=O g=some (.aM<|eI L)/\∀b,b≠q.kn->b≠g->gx b≠none->O b=gx b
theorem DictAt.kb(h:DictAt q j L gx O)(l:j≠q.kn)(hk:Kb q.kn O ah):DictAt q j L gx ah:=⟨(hk j l<|by rw[h.1];simp).trans h.1,λb hb g m=>(hk b hb<|by rw[h.2 b hb g m];calc m).trans<|h.2 b hb g m⟩
end
section
variable{c:Cx}{k:Nat}{V:Env}{O ah:al}{ρ:az}{CH CB CU CC:Addr}{a:cg}{s:Hp}{e:Nat}
theorem Xp(W:Wc c CH CB CU CC)(G:Good e s)(T2:mI s):∀(N n:Nat),n<=N->1<=n->n<=4->xZ c CH CB CU CC a s q (k+4*n+5) n:=by
 intro e4;induction e4 with
 |zero=>
  calc λn hN h1 h4=>absurd (aL h1 hN)<|gm _
 |succ N ih=>
  calc λn hN h1 h4=>λf i j O K Q F X hi hj q0=>ai (⟨n -1,(aB 0x6489811218202f1) h1 h4⟩:∃m,n=m+1) λm l=>?_;clear h1;subst l;have d1:=W.w.len;have h7:=G.nz;have c0:i<7:=by have:=hi.1;exact rh h7 this
  have c1:j<7:=by have:=hj.1;exact rh h7 this
  calc aE X.at_.ns λbF σ l=>fi l λc2 U hh a5 _=>cY F rfl λV g3=>aU<|cz<|cT ?_;lk;calc⟨lb rfl,.inl ⟨[.int (i:Nat),.int (j:Nat),.int ((m+1:Nat):Int)],rfl,?_⟩⟩;lk;calc⟨_,_,_,_,_,_,rfl,X.at_.ob,U,a5,rfl,W.cls,W.known,?_⟩;have a0:=Qk (i,j,m+1);have e5:Dt.tup [Dt.int (i:Nat),Dt.int (j:Nat),Dt.int ((m+1:Nat):Int)]=kD (i,j,m+1):=rfl;rw[e5];calc Uw X.kn a0 ⟨_,rfl,?_⟩;cases hg:dH (iF K) (kD (i,j,m+1)) with
  |some p=>
   calc ai (Vt hg) λps l=>?_;have e6:=l.1;have r:=l.2;clear l;subst r;calc cy rfl ?_;lk;calc⟨_,_,_,_,_,_,rfl,X.at_.ob,U,a5,rfl,W.cls,W.known,?_⟩;lk;calc pL X.kn a0.key a0.dZ hg<|q0 O K ps X Kb.refl (X.ok.2 _ e6).2.2.2
  |none=>
   refine cB rfl<|aU<|cz<|WE.mono (Q:=λp ah=>∃Y,p= .ref Y/\O Y=none/\ah=upd O Y (.aM<|eI<|if m=0 then[vT i j] else[])) (Dy ?_) ?_
   .lk;calc fe et et ⟨_,rfl,?_⟩;by_cases hm:m=0
    .rw[if_pos hm];calc cB (decide_eq_true<|by rw[hm];rfl) ?_;have g9:=D0 c0 c1;calc Na (by rfl) (by rfl) (λh=>nomatch h) (by decide)<|Fa<|cT<|ba<|Dh<|rn ?_;lk;calc⟨_,rfl,by unfold small;decide+kernel,rn<|zV ?_⟩;lk;calc⟨_,rfl,zt<|(aB 141718653425) c0,_,rfl,g9.1,rn ?_⟩;lk;calc⟨_,rfl,g9.2.1,rn<|zV ?_⟩;lk;calc⟨_,rfl,zt<|(aB 141718653425) c1,_,rfl,g9.2.2,Dv g9.2.2 ?_⟩;lk;calc⟨lb rfl,.inl ⟨[.str (vStr i j)],rfl,_,rfl,?_⟩⟩;lk;refine KV ⟨lb rfl,λe he=>?_,λY a1=>⟨Y,aR rfl a1 ?_⟩⟩
     .rw[ci.mp he];exact⟨jx ((Bm c0 c1).1.1) rfl,lb rfl⟩
     .have:qk [] [(Dt.tup [Dt.str (vStr i j)],PV.d<|Dt.bool true)]=eI [vT i j]:=(if_neg wB:dput [] _ _=_);rw[this]
    .rw[if_neg hm];exact cy (decide_eq_false<|by rw[Dt.int.injEq];calc(aB 0xd16f11f01fbd6e1) hm)<|lG λY a1=>⟨Y,aR rfl a1 rfl⟩
   intro p e7 l;calc ai l λY r=>?_;have e8:=r.1;have a1:=r.2.1;have e9:=r.2.2;clear r l;subst e8;subst e9;have X1:=X.push (m:= .aM<|eI<|if m=0 then[vT i j] else[]) a1;have d2:Y≠q.kn:=λe=>by rw[e,X.kn] at a1;exact cU a1
   have D1:DictAt q Y (if m=0 then[vT i j] else[]) O (upd O Y<|.aM<|eI<|if m=0 then[vT i j] else[]):=⟨bo,λb _ hb _=>aC hb⟩
   have c7:(if m=0 then[vT i j] else[]).Nodup/\∀t,t∈(if m=0 then[vT i j] else[])↔Base i j (m+1) t:=by
    by_cases hm:m=0
    .rw[if_pos hm];calc⟨uM,λt=>?_⟩;rw[ci];exact⟨λh=>⟨(aB 6862561) hm,h⟩,λh=>h.2⟩
    .rw[if_neg hm];refine⟨hX,λt=>⟨λh=>(cX h),λh=>absurd h.1<|(aB 0xd68bd6e168b) hm h.1⟩⟩
   generalize (if m=0 then[vT i j] else[])=L0 at X1 D1 c7|-;generalize upd O Y (.aM<|eI L0)=e7 at X1 D1|-;calc aE X1.at_.ns λbF σ l=>fi l λc2 U hh a5 _=>?_;lk;calc gD (λ_=>rfl)<|eJ ?_;tm_at"m";lk;calc⟨_,_,_,_,_,_,rfl,X1.at_.ob,U,hh,rfl,W.cls,W.heap,eF X1.hp.at_ W.w.H.cls W.w.kY (by decide+kernel) λg J=>?_⟩;lk;calc aW.up (k:=4) (LM (k:=0) W.w J X1.hp G hi.1 λg4 c3=>?_)<|(aq 0x2402f418fc102f202fc) h4;rw[hi.2] at c3;refine⟨_,rfl,forL (g:=λx=>PV.d x.dt) [ak "node",ak "other",ak "kids"] (λdone ah=>∃(L:List Tm) (K':Kn),Co CH CB CU CC a s q ah K'/\DictAt q Y L O ah/\L.Nodup/\∀t,t∈L↔Base i j (m+1) t\/∃x∈done,∃o,fx s j o/\Gen s (m+1) x o t) (bg ..) ⟨L0,K,X1,D1,c7.1,λt=>by rw[c7.2];simp⟩ ?_ ?_⟩
   .intro done x g0 ah b1 Q1 hd l ag f0;calc aE l λL K' r=>bV r λS D' c4 a8=>?_;have hx:fx s i x:=(c3 x).mp<|mid hd
    ·
     calc aE S.at_.ns λbF σ l=>fi l λc2 U hh a5 _=>?_;tm_at"1";calc aU<|gD (λ_=>rfl)<|eJ ?_;tm_at"m";lk;calc bJ (ag.tr rfl rfl)<|⟨_,_,_,_,_,_,rfl,S.at_.ob,U,hh,rfl,W.cls,W.heap,eF S.hp.at_ W.w.H.cls W.w.kY (by decide+kernel) λg J=>ba<|bJ (ag.tr rfl rfl) ?_⟩;lk;calc aW.up (k:=4) (LM (k:=0) W.w J S.hp G hj.1 λg5 c5=>?_)<|(aq 0x2402f418fc102f202fc) h4;rw[hj.2] at c5;refine⟨_,rfl,forL (g:=λx=>PV.d x.dt) [ak "other",ak "kids"] (λb2 ah=>∃(L2:List Tm) (K':Kn),Co CH CB CU CC a s q ah K'/\DictAt q Y L2 O ah/\L2.Nodup/\∀t,t∈L2↔t∈L\/∃o∈b2,Gen s (m+1) x o t) (bg ..) ⟨L,K',S,D',c4,λt=>by simp⟩ ?_ ?_⟩
     .intro b2 o f1 ah b1 Q2 d3 l D d4;calc aE l λL2 K2 r=>bV r λS D' a9 P=>?_;have ho:fx s j o:=(c5 o).mp<|mid d3
      ·
       have kx:=G.wh hx;have ko:=G.wh ho;have d5:=kx.ok.2;have b3:=ko.ok.2;tm_at"1";calc aU<|pU<|lP (by rfl)<|cT<|ba<|jA (λ_ _=>by rfl)<|bJ (D.tr rfl rfl) ?_;lk;calc eY (eT) (eV) rfl<|ba<|rJ d1 (by tm_at"k") (by decide) (by rfl) (by rfl)<|ba<|bJ (D.tr rfl rfl) ?_;lk;calc kZ (by unfold small;simp;calc(aB 148429210865) d5) ?_;lk;calc⟨lb rfl,.inl ⟨[.str x.op,.int ((Dt.str x.op::x.kids.map λi=>Dt.int (i:Nat)).length:Nat)],rfl,cT ?_⟩⟩;lk;calc eY (eT) (eV) rfl ?_;lk;calc kZ (by unfold small;simp;calc(aB 148429210865) b3) ?_;lk;calc⟨lb rfl,.inl ⟨[.str o.op,.int ((Dt.str o.op::o.kids.map λi=>Dt.int (i:Nat)).length:Nat)],rfl,fe (Ll kx.ok.1.facts.1) (Ll ko.ok.1.facts.1) ⟨_,rfl,?_⟩⟩⟩;by_cases Z:x.op=o.op/\x.kids.length=o.kids.length
       .refine cB (decide_eq_true<|by rw[Z.1,bP,bP,au,au,Z.2])<|aU<|gD (λ_=>rfl)<|eJ ?_;tm_at"m";calc bJ (D.tr rfl<|ag.tr rfl rfl)<|sL S.at_ W.cls W.spread (by decide+kernel) λg J=>ba<|Ap<|bJ (D.tr rfl rfl)<|il (lb rfl) (by unfold small;simp;calc(aq 607966047712817) b3 Z.2) ?_;lk;calc il (lb rfl) (by unfold small;simp;calc(aB 148429210865) b3)<|ba<|iD<|bJ (D.tr rfl<|ag.tr rfl rfl) ?_;lk;rw[show(((m+1:Nat):Int) -1)=(m:Int) from(aB 0x16f01f124f11f01fb)];calc aW.up (Xa (L:=k+4*m+4) (m:=m) W G T2 ((aB 140913017595) h4) (λn' g1 g2=>(ih n' (sy hN g2) g1<|(aq 566184603796017) h4 g2).up<|(ax 0x248402f418f5140bf418f31253) g2) x.kids o.kids m (bS _) Z.2 d5 (hx.Ds G) (ho.Ds G) J S λg6 K3 T X3 f2 g7 hT=>?_)<|(aV 0x2402f418fc1484548402f418f31204fa6a5) b3 Z.2;refine⟨_,rfl,forL (g:=λx=>PV.d<|jI x) [ak "kids"] (λa2 ah=>∃L3:List Tm,Co CH CB CU CC a s q ah K3/\DictAt q Y L3 O ah/\L3.Nodup/\∀t,t∈L3↔t∈L2\/∃C∈a2,t= .nd x.op C) (bg ..) ⟨L2,X3,(D'.kb d2 f2),a9,λt=>by simp⟩ ?_ ?_⟩
        .intro a2 C f3 ah b1 Q3 d6 l a7 f4;calc ai l λL3 r=>bV r λS D' a6 a3=>?_;have b4:C∈T:=mid d6
         ·
          have d7:=((hT C).mp b4);have d8:=d7.2;have b5:∀I,I∈T->du s i j (.nd x.op I)/\(Tm.nd x.op I).rows.length=m+1:=λI h'=>(yn _).mpr<|.inr ⟨x,hx,o,ho,Z.1,I,rfl,((hT I).mp h').1,by rw[((hT I).mp h').2]⟩;have f5:cN (.nd x.op C):=(xK G hi.1 hj.1 (b5 C b4).1<|by rw[(b5 C b4).2];calc(aq 576123158115859) h4 d8).1
          have c8:L3.length<=1000:=by
           calc Du G T2 (a:=i) (b:=j) (n:=m+1) h4 a6 λt ht=>?_;rcases(a3 t).mp ht with h|⟨I,h',rfl⟩
           .rcases(P t).mp h with h|⟨o',c9,J⟩
            .rcases(a8 t).mp h with h|⟨x',f6,o',c9,J⟩
             .exact(yn _).mpr<|.inl h
             .exact(yn _).mpr<|.inr ⟨x',(c3 x').mp<|yd hd f6,o',c9,J⟩
            .exact(yn _).mpr<|.inr ⟨x,hx,o',(c5 o').mp<|yd d3 c9,J⟩
           .exact b5 I<|yd d6 h'
          tm_at"1";calc aU<|cz<|xB<|EJ<|bJ (a7.tr rfl<|D.tr rfl<|ag.tr rfl rfl)<|iD<|cT<|ba<|jA (λ_ _=>by rfl)<|bJ (a7.tr rfl<|D.tr rfl rfl) ?_;lk;calc eY (eT) (eV) rfl ?_;lk;calc⟨lb rfl,.inl ⟨[.str x.op],rfl,?_⟩⟩;lk;calc qi (by simp;calc(ax 0x205f418204f3635615) b3 Z.2<|(te d7.1).1) ?_;have f7:Dt.tup ([Dt.str x.op]++C.map Tm.dt)=(Tm.nd x.op C).dt:=by rw[(Tm.nd x.op C).jv];rfl
          rw[f7];calc pN D'.1 f5.key (by rw[au];calc iN c8) ?_;rw[Kg]
          have b6:(if Tm.nd x.op C∈L3 then L3 else L3++[Tm.nd x.op C]).Nodup/\(if Tm.nd x.op C∈L3 then L3 else L3++[Tm.nd x.op C]).length<=1001/\∀t,t∈(if Tm.nd x.op C∈L3 then L3 else L3++[Tm.nd x.op C])↔t∈L2\/∃I∈a2++[C],t= .nd x.op I:=by
           have key:∀t,t∈L3\/t=Tm.nd x.op C↔t∈L2\/∃I∈a2++[C],t= .nd x.op I:=wk a3 λt=>uA;split
           .rename_i b7;exact aR a6 ((aB 152455743217) c8) λt=>by rw[<-key];exact⟨.inl,λh=>h.elim id λh=>h▸b7⟩
           .rename_i b7;exact⟨kg a6 b7,by rw[bA,gG];calc(aB 152466228977) c8,λt=>by rw[<-key,ca,ci]⟩
          generalize (if Tm.nd x.op C∈L3 then L3 else L3++[Tm.nd x.op C])=L4 at b6|-;have b8:Kb q.kn O (upd ah Y<|.aM<|eI L4):=λb hb hn=>by have b9:b≠Y:=λe=>hn<|e▸a1;exact(aC b9).trans<|D'.2 b hb b9 hn
          have X4:Co CH CB CU CC a s q (upd ah Y<|.aM<|eI L4) K3:=X.same b8 ((aC<|cI d2).trans S.kn) S.ok;have D4:DictAt q Y L4 O (upd ah Y<|.aM<|eI L4):=⟨bo,λb hb b9 hn=>(aC b9).trans<|D'.2 b hb b9 hn⟩;generalize upd ah Y (.aM<|eI L4)=g8 at X4 D4|-;calc aU<|eG ?_;tm_at"m";calc bJ (a7.tr rfl<|D.tr rfl<|ag.tr rfl rfl)<|sL X4.at_ W.cls W.limited (by decide+kernel) λg J=>ba<|bJ (a7.tr rfl<|D.tr rfl<|ag.tr rfl rfl) ?_;lk;have d0:(eI L4).length=L4.length:=by rw[au]
          exact aW.up (Ex (k:=0) W J (m:=L4.length) (λ{k Q} q=>Ff D4.1 ((aq 569483194218033) b6.2.1 d0)<|by rw[d0];calc q) ((aq 623359263970835) b6.2.1 d0)<|cE<|f4 _ _ ⟨L4,X4,D4,b6.1,b6.2.2⟩<|a7.set rfl)<|(ax 0x2402f418fc148e202fc635) h4 d8
        .intro ah b1 l a7;calc ai l λL3 r=>bV r λS D' a6 a3=>cE<|cE<|d4 _ _ ⟨L3,K3,S,D',a6,wk P λt=>?_⟩<|a7.up rfl<|D.set rfl;rw[a3];constructor
         .rintro (h|⟨C,h,e⟩)
          .exact .inl h
          .exact .inr ⟨Z.1,C,e,((hT C).mp h).1,by rw[((hT C).mp h).2]⟩
         .rintro (h|⟨_,C,e,g1,g2⟩)
          .exact .inl h
          .exact .inr ⟨C,(hT C).mpr ⟨g1,(aq 6493899) g2⟩,e⟩
       .refine cy (decide_eq_false λh=>Z ?_) ?_
        .rw[Dt.tup.injEq,tZ,tZ,Dt.str.injEq,Dt.int.injEq] at h;calc⟨h.1,?_⟩;have:=h.2.1;simp at this;exact(aq 0x63116f01f301f1) this
        calc cE<|cE<|d4 _ _ ⟨L2,K2,S,D',a9,wk P λt=>⟨.inl,λh=>h.elim id λz=>ai z.2 λC y=>?_⟩⟩<|D.set rfl;exact absurd ⟨z.1,(ax 0x6310af653651)<|te y.2.1⟩ Z
     .intro ah b1 l D;calc aE l λL2 K2 r=>bV r λS D' a9 P=>cE<|f0 _ _ ⟨L2,K2,S,D',a9,wk a8 λt=>?_⟩<|D.up rfl<|ag.set rfl;rw[P];exact or_congr uA<|exists_congr λo=>and_congr_left λ_=>c5 o
   .intro ah b1 l ag;refine aE l λL K' r=>bV r λS D' c4 a8=>?_
    have b0:∀t,t∈L↔du s i j t/\t.rows.length=m+1:=λt=>by rw[yn,a8];exact or_congr uA<|exists_congr λx=>and_congr_left λ_=>c3 x
    calc aE S.at_.ns λbF σ l=>fi l λc2 U hh a5 _=>aU<|cz<|rJ W.w.mE (by tm_at"k") (by decide) (by rfl) (by rfl)<|ba<|bJ (ag.tr rfl rfl) ?_;lk;calc Zi D'.1 (ds:=L.map Tm.row) (by rw[yi,bg];calc gZ λt _=>t.uF) (by rw[au];calc iN<|Du G T2 (a:=i) (b:=j) (n:=m+1) h4 c4 λt ht=>(b0 t).mp ht) (Xs λt ht=>(xK G hi.1 hj.1 ((b0 t).mp ht).1<|by rw[((b0 t).mp ht).2];calc(aB 140655067899) h4).1) λks hk=>ai (rQ hk) λps l=>?_;have d9:=l.1;have r:=l.2;clear l;clear hk;subst r;have f8:(ps.map Tm.row).map Dt.tup=ps.map Tm.dt:=by rw[bg];exact gZ λt _=>t.uF.symm
    have c6:yo s i j (m+1) ps:=⟨d9.nodup_iff.mpr c4,λt=>by rw[d9.mem_iff];calc b0 t⟩;calc ai (S.ok.put (x:=(i,j,m+1)) c0 c1 (show m+1<5 from(aB 484252451579) h4) c6) λK2 l=>aN l λyr e0 b7=>EJ<|tm (by rfl)<|bJ (ag.tr rfl rfl)<|⟨_,_,_,_,_,_,rfl,S.at_.ob,U,a5,rfl,W.cls,W.known,bJ (ag.tr rfl rfl) ?_⟩;calc pN S.kn a0 (by rw[au];calc(aB 139033988593)<|QE S.ok) ?_;rw[show(Dt.lst<|(ps.map Tm.row).map Dt.tup)=lD ps by rw[f8];rfl,yr];have b8:Kb q.kn O (upd ah q.kn<|.aM<|iF K2):=λb hb hn=>by exact(aC hb).trans<|D'.2 b hb (λe=>hn<|e▸a1) hn
    have X5:Co CH CB CU CC a s q (upd ah q.kn<|.aM<|iF K2) K2:=X.same b8 bo e0;generalize upd ah q.kn (.aM<|iF K2)=f9 at X5 b8|-;calc aE X5.at_.ns λbF σ l=>fi l λc2 U hh a5 _=>cE<|aU<|eX<|jA (λ_ _=>by rfl)<|tm (by rfl)<|bJ (ag.tr rfl rfl)<|⟨_,_,_,_,_,_,rfl,X5.at_.ob,U,a5,rfl,W.cls,W.known,bJ (ag.tr rfl rfl)<|pL X5.kn a0.key a0.dZ (Tz e0.1 b7)<|q0 f9 K2 ps X5 b8 c6⟩
end
section
variable{s:Hp}{e:Nat}
noncomputable def hole:Tm:= .nd (ak "?") []
noncomputable def oE:List Tm:=[wX,xk,hole]
noncomputable def sx:List Tm:=oE.map fT
noncomputable def uW:List Tm:=sx.map fT++oE.flatMap λt=>oE.map λu=>pT t u
noncomputable def Iq:List Tm:=(uW.map fT++oE.flatMap λt=>sx.map λu=>pT t u)++sx.flatMap λt=>oE.map λu=>pT t u
noncomputable def trees:Nat->List Tm
 |1=>oE
 |2=>sx
 |3=>uW
 |4=>Iq
 |_=>[]
mutual
noncomputable def Tm.sp:Tm->Nat->List (Tm×Nat)
 | .nd x l,m=>if x=ak "?"/\l.isEmpty=true then(cS<|m+1).map λk=>(qv k,max m<|k+1) else(Tm.nJ l [([],m)]).map λr=>(.nd x r.1,r.2)
noncomputable def Tm.nJ:List Tm->List (List Tm×Nat)->List (List Tm×Nat)
 |[],rows=>rows
 |t::g,rows=>Tm.nJ g<|rows.flatMap λr=>(t.sp r.2).map λq=>(r.1++[q.1],q.2)
end
theorem Tm.xg{m:Nat}:(Tm.nd x l).sp m=if x=ak "?"/\l.isEmpty=true then(cS<|m+1).map λk=>(qv k,max m<|k+1) else(Tm.nJ l [([],m)]).map λr=>(.nd x r.1,r.2):=rfl
noncomputable def pats(most:Nat):List Tm:=(cS most).flatMap λn=>(trees<|n+1).flatMap λt=>(t.sp 0).map (·.1)
theorem FG:∀m:Fin 5,(pats m.val).length<=52:=by decide+kernel
mutual
noncomputable def Tm.fG:Tm->Tm
 | .nd x l=>if isQ x=true then hole else .nd x<|Tm.vP l
noncomputable def Tm.vP:List Tm->List Tm
 |[]=>[]
 |t::g=>t.fG::Tm.vP g
end
theorem QZ(h:isQ x=false):x≠ak "?":=λe=>by rw[e] at h;calc absurd h<|by decide+kernel
theorem Sp:(∀(t:Tm) (vs:List Tm),((t.nm vs).2,(t.nm vs).1.length)∈t.fG.sp vs.length)/\∀(l:List Tm) (vs:List Tm) (head:List Tm) (rows:List<|List Tm×Nat),(head,vs.length)∈rows->(head++(Tm.cJ vs l).2,(Tm.cJ vs l).1.length)∈Tm.nJ (Tm.vP l) rows:=by
 refine Tm.ind (λx l j=>?_) ?_ λt C m p=>?_
 .intro vs;rw[Tm.EG,show(Tm.nd x l).fG=if isQ x=true then hole else .nd x (Tm.vP l) from rfl];by_cases g:isQ x=true
  .rw[if_pos g,if_pos g];unfold hole;rw[Tm.xg,if_pos ⟨rfl,rfl⟩,bb];split
   .rename_i z;have:=BL.mpr z;exact⟨vs.idxOf<|Tm.nd x l,eM.mpr<|by calc tA this,by rw[Pa (by calc(aq 2340657) this)]⟩
   .exact⟨vs.length,eM.mpr<|sO,by rw[bA,gG,OV (Q8)]⟩
  .rw[if_neg g,if_neg g,Tm.xg,if_neg λh=>QZ (by simpa using g) h.1,bb];exact⟨((Tm.cJ vs l).2,(Tm.cJ vs l).1.length),by simpa using j vs [] [([],vs.length)] dC,rfl⟩
 .intro vs head rows h;rw[show(Tm.cJ vs []).2=[] from rfl,ea];exact h
 .intro vs head rows h;have:=p (t.nm vs).1 (head++[(t.nm vs).2]) (rows.flatMap λr=>(t.fG.sp r.2).map λq=>(r.1++[q.1],q.2))<|gI.mpr ⟨_,h,bb.mpr ⟨_,m vs,rfl⟩⟩;rw[eK] at this;calc this
theorem Vo:∀(t:Tm) (vs:List Tm),((t.nm vs).2,(t.nm vs).1.length)∈t.fG.sp vs.length:=(Sp).1
theorem Bf(l:List Tm)(h:isQ x=false):(Tm.nd x l).fG= .nd x (Tm.vP l):=show(if isQ x=true then hole else .nd x<|Tm.vP l)=_ from if_neg<|h▸rK
theorem Xc(u:Tm):(fT u).fG=fT u.fG:=Bf _<|by decide+kernel
theorem Yb(u v:Tm):(pT u v).fG=pT u.fG v.fG:=Bf _<|by decide+kernel
theorem Se(g:a<7)(hb:b<7)(h:t∈jS a b):t.fG∈oE:=by
 refine(dD.mp h).elim (λe=>e▸ ?_) λh=>(dD.mp h).elim (λe=>e▸ ?_) λh=>ci.mp h▸ ?_
 .exact(show(vT a b).fG=hole from if_pos (Bm g hb).2)▸ .tail _ (.tail _<|.head _)
 .exact(show wX.fG=wX from Bf _<|by decide+kernel)▸ .head _
 .exact(show xk.fG=xk from Bf _<|by decide+kernel)▸ .tail _ (.head _)
theorem FA(G:Good e s)(h:n∈canon s)(j:Nat):n.kids.getD j 0<7:=by
 calc ai (bb.mp h) λm q=>aw q λhm q=>ai (gk.mp hm) λi hi=>?_;rw[<-q,wq];cases hk:(gs s.par m).kids[j]? with
 |none=>calc ph 6
 |some a=>calc fL ((show fx s (root s.par i) (gs s.par m) from⟨i,m,hi,rfl,rfl⟩).kids G a<|fZ hk) G.nz
theorem LJ(G:Good e s)(h:x∈ir s):x<7:=ai (bb.mp h) λZ q=>q.2▸FA G (gK.mp q.1).1 0
theorem mG(G:Good e s)(h:x∈fQ s):x.1<7/\x.2<7:=ai (bb.mp h) λZ q=>q.2▸⟨FA G (gK.mp q.1).1 0,FA G (gK.mp q.1).1 1⟩
theorem EH(G:Good e s){C F:List Tm}{n a b:Nat}{t:Tm}(h:du s a b t)(hz:t.rows.length=n+1+1)(f:∀{u:Tm} {x y:Nat},x<7->y<7->du s x y u->u.rows.length=n+1->u.fG∈F)(hf:∀u∈F,fT u∈C)(p:∀{x y:Nat×Nat},x∈fQ s->y∈fQ s->∀{u v:Tm},du s x.1 y.1 u->du s x.2 y.2 v->u.rows.length+v.rows.length=n+1->pT u.fG v.fG∈C):t.fG∈C:=zy G (P:=λt=>t.rows.length=n+1+1->t.fG∈C) h (λt l hz=>nomatch (DP l).symm.trans hz) (λx g y hy u j hz=>Xc u▸hf _ (f (LJ G g) (LJ G hy) j<|AZ hz)) (λx g y hy u v j m hz=>Yb u v▸p g hy j m (qy<|(Bg u v).symm.trans hz)) hz
theorem SI(G:Good e s)(n:Nat){t:Tm}{a b:Nat}(z:n<=4)(l:a<7)(hb:b<7)(h:du s a b t)(hz:t.rows.length=n):t.fG∈trees n:=by
 have j:∀{t:Tm} {a b:Nat},a<7->b<7->du s a b t->t.rows.length=1->t.fG∈oE:=λl hb h hz=>Se l hb<|mR G h hz;have m:∀{t:Tm} {a b:Nat},a<7->b<7->du s a b t->t.rows.length=2->t.fG∈sx:=λZ Z h hz=>EH G h hz j (λZ=>cL) λZ Z Z Z Z Z hz=>JL hz;have r:∀{t:Tm} {a b:Nat},a<7->b<7->du s a b t->t.rows.length=3->t.fG∈uW:=λZ Z h hz=>EH G h hz m (λZ h=>dh _<|cL h) λg hy Z Z p q hz=>cn _<|ff (j (mG G g).1 (mG G hy).1 p (Ai hz).1)<|cL<|j (mG G g).2 (mG G hy).2 q (Ai hz).2;have hc:n=1\/n=2\/n=3\/n=4:=(aq 0x1bf1bf1bf602f160cf1604f1681202f1613238) z hz<|iK t;rcases hc with rfl|rfl|rfl|rfl
 .exact j l hb h hz
 .exact m l hb h hz
 .exact r l hb h hz
 .exact EH G h hz r (λZ h=>dh _<|dh _<|cL h) λg hy Z Z p q hz=>(Ih hz).elim (λh=>dh _<|cn _<|ff (j (mG G g).1 (mG G hy).1 p h.1)<|cL<|m (mG G g).2 (mG G hy).2 q h.2) λh=>cn _<|ff (m (mG G g).1 (mG G hy).1 p h.1)<|cL<|j (mG G g).2 (mG G hy).2 q h.2
theorem LY(G:Good e s)(j:a<7)(hb:b<7)(hm:most<=4)(g:n<=most)(h:du s a b t)(hz:t.rows.length=n):(t.nm []).2∈pats most:=by have:=iK t;calc gI.mpr ⟨n -1,eM.mpr<|(ax 0x73981231615258) g hz this,gI.mpr ⟨t.fG,?_,bb.mpr ⟨_,Vo t [],rfl⟩⟩⟩;rw[show n -1+1=n from(aq 0x6148981613238) hz this];calc SI G n ((ax 0x202f1202f3231615) hm g hz) j hb h hz
noncomputable def Found(s:Hp)(a b most:Nat)(F:List Tm):Prop:=F.Nodup/\∀t,t∈F↔∃p,p.rows.length<=most/\du s a b p/\t=(p.nm []).2
theorem FR(G:Good e s){a b most:Nat}(m:a<7)(hb:b<7)(hm:most<=4){F:List Tm}(q:F.Nodup)(h:∀t∈F,∃p,p.rows.length<=most/\du s a b p/\t=(p.nm []).2):F.length<=52:=by calc aL (q.length_le_of_subset λt l=>ai (h t l) λp g=>aN g λh1 r j=>?_)<|FG ⟨most,(aB 484241965809) hm⟩;clear g;clear l;subst j;calc LY G m hb hm h1 r rfl
theorem Ax:∀i:Fin 51,gT (gW i.val)/\isQ (gW i.val)=true:=by
 have:∀i:Fin 51,(gp (gW i.val)=true/\1<=(gW i.val).cps.size/\(gW i.val).cps.size<=1000)/\isQ (gW i.val)=true:=by decide+kernel
 calc this
theorem SS:(∀(t:Tm) (vs:List Tm),(∀r∈t.rows,gT r.str/\(isQ r.str=true->r.kids=[]))->vs.length+t.rows.length<=50->(t.nm vs).2.rows.length<=t.rows.length/\∀r∈(t.nm vs).2.rows,gT r.str/\(isQ r.str=true->r.kids=[]))/\∀(l:List Tm) (vs:List Tm),(∀r∈Tm.bx l,gT r.str/\(isQ r.str=true->r.kids=[]))->vs.length+(Tm.bx l).length<=50->(Tm.bx (Tm.cJ vs l).2).length<=(Tm.bx l).length/\∀r∈Tm.bx (Tm.cJ vs l).2,gT r.str/\(isQ r.str=true->r.kids=[]):=by
 refine Tm.ind (λx l j=>?_) ?_ λt D m p=>?_
 .intro vs h hz
  rw[Tm.EG];rw[Tm.jJ] at h;have g:(Tm.nd x l).rows.length=(Tm.bx l).length+1:=by rw[Tm.jJ,bP]
  have one:∀i,i<=50->(qv i).rows.length<=(Tm.nd x l).rows.length/\∀r∈(qv i).rows,gT r.str/\(isQ r.str=true->r.kids=[]):=λi hi=>by unfold qv;rw[Tm.jJ,Tm.pV,g];calc⟨lb rfl,λr g=>?_⟩;rw[ci.mp g];exact⟨(Ax ⟨i,(aB 497932177649) hi⟩).1,λZ=>rfl⟩
  split
  .split
   .rename_i q;exact one _<|(aV 0x210f1210f45360df5731) hz g<|BL.mpr q
   .exact one _<|(ax 0x210f1210f431603f3) hz g
  .rename_i H;refine aw (j vs (λr g=>h r<|dw _ g)<|(ax 0x210f431210f4516c5) hz g) λh1 z=>⟨?_,?_⟩
   .rw[g];show(Tm.nd x (Tm.cJ vs l).2).rows.length<=_;rw[Tm.jJ,bP];exact yx h1
   .show∀r∈(Tm.nd x (Tm.cJ vs l).2).rows,_;rw[Tm.jJ];intro r g;rcases dD.mp g with rfl|g
    .exact⟨(h _ dC).1,λC=>absurd C H⟩
    .exact z r g
 .intro vs h hz;exact⟨bS _,h⟩
 .intro vs h hz;rw[Tm.iP] at h;rw[Tm.iP,bA] at hz;rw[show Tm.bx (Tm.cJ vs (t::D)).2=(t.nm vs).2.rows++Tm.bx (Tm.cJ (t.nm vs).1 D).2 from rfl,Tm.iP,bA,bA];calc aw (m vs (λr g=>h r<|dh _ g)<|(ax 0x210f431210f44531) hz) λh1 z=>aw (p (t.nm vs).1 (λr g=>h r<|cn _ g)<|(aV 0x210f431210f443a524a51) hz<|Tm.Lk t vs) λI J=>⟨(aV 644675415642787) h1 I,λr g=>(ca.mp g).elim (z r)<|J r⟩
theorem Ui:∀(t:Tm) (vs:List Tm),(∀r∈t.rows,gT r.str/\(isQ r.str=true->r.kids=[]))->vs.length+t.rows.length<=50->(t.nm vs).2.rows.length<=t.rows.length/\∀r∈(t.nm vs).2.rows,gT r.str/\(isQ r.str=true->r.kids=[]):=(SS).1
theorem KE(h:fc t):fc (t.nm []).2:=by have h1:=h.1.1;calc aw (Ui t [] (λr g=>⟨h.1.2 r g,h.2 r g⟩)<|by simp;calc(aB 141986761713) h1) λl j=>⟨⟨(aq 576080217846321) h1 l,λr g=>(j r g).1⟩,λr g=>(j r g).2⟩
end
section
variable{c:Cx}{k:Nat}{V:Env}{O ah:al}{ρ:az}{CH CB CU CC:Addr}{a:cg}{s:Hp}{e:Nat}
theorem wj{l:List Tm}(h:∀t∈l,cN t):mU (.lst<|l.map Tm.dt):=aN (Bt h) λg j m=>⟨g,j,iv<|aL m<|lb rfl⟩
noncomputable def zw(d:Dt):Tm:=open Classical in if h:∃t:Tm,t.dt=d then h.choose else hole
theorem qQ(t:Tm):zw t.dt=t:=by unfold zw;have h:∃u:Tm,u.dt=t.dt:=⟨t,rfl⟩;rw[dif_pos h];calc Tm.pE _ _ h.choose_spec
noncomputable def je(t:Tm):List Dt:=[.int t.rows.length,.tup<|t.rows.map λr=> .str r.str,.tup (t.rows.map λr=> .int (r.kids.length:Nat))]
theorem Lq(h:cN t)(f:Tm->Nat):mw [.int t.rows.length,.tup<|t.rows.map λr=> .str r.str,.tup (t.rows.map λr=> .int (f r:Nat))]/\Dt.keys [.int t.rows.length,.tup<|t.rows.map λr=> .str r.str,.tup (t.rows.map λr=> .int (f r:Nat))]=true/\Dt.dG [.int t.rows.length,.tup<|t.rows.map λr=> .str r.str,.tup (t.rows.map λr=> .int (f r:Nat))]<=20:=aR ⟨_,_,_,rfl,λZ hd=>ai (bb.mp hd) λZ q=>⟨_,q.2.symm⟩,λZ hd=>ai (bb.mp hd) λZ q=>⟨_,q.2.symm⟩⟩ (jx rfl<|jx (keys_map λr g=>(h.2 r g).1)<|jx (keys_map λZ Z=>rfl) rfl)<|qA.mpr ⟨cO _,qA.mpr ⟨iv<|AJ (n:=19) λZ Z=>cO _,qA.mpr ⟨iv<|AJ (n:=19) λZ Z=>cO _,cO _⟩⟩⟩
theorem DN(h:cN t):mw (je t)/\Dt.keys (je t)=true/\Dt.dG (je t)<=20:=Lq h _
structure Cb(CH CB CU CC:Addr)(a:cg)(s:Hp)(o dx:Addr)(O:al)(B:Nat):Prop where
 ob:O o=some (.inst CC dx)
 ns:∃n σ,n<=B/\O dx=some (.ns n σ)/\σ (ak "heap")=some (.ref a.h)/\∀x,x≠ak "heap"->x≠ak "known"->σ x=none
 hp:bN CH CB CU a O s
 no:o∉a.own s
 nx:dx∉a.own s
 ne:o≠dx
theorem Cb.known(X:Cb CH CB CU CC a s o dx O B)(p:B<=400)(q:n<=B)(hs:O dx=some (.ns n σ))(hh:σ (ak "heap")=some (.ref a.h))(g:∀x,x≠ak "heap"->x≠ak "known"->σ x=none)(hk:O kn=none):Co CH CB CU CC a s ⟨o,dx,kn⟩ (upd (upd O kn<|.aM []) dx<|.ns (n+1)<|aZ σ (ak "known")<|.ref kn) []:=by
 have j:o≠kn:=λe=>by have:=X.ob;rw[e,hk] at this;exact bp this
 have l:dx≠kn:=λe=>by rw[e,hk] at hs;exact bp hs
 refine{at_:=⟨(aC X.ne).trans<|(aC j).trans X.ob,n+1,_,(aq 649790493766193) p q,bo,?_,?_,λx h1 m=>?_⟩,hp:=X.hp.same λb hb=>(aC λe:b=dx=>X.nx<|e▸hb).trans (aC λe:b=kn=>X.hp.fresh hk<|e▸hb),kn:=(aC<|cI l).trans bo,ok:=⟨hX,λZ h=>(cX h)⟩,ne:=X.hp.fresh hk,n1:=cI j,n2:=cI l}
 .unfold aZ;rw[if_neg (by decide+kernel)];exact hh
 .unfold aZ;rw[if_pos rfl]
 .unfold aZ;rw[if_neg m];calc g x h1 m
theorem Cb.back{o dx kn:Addr}{B:Nat}{K:Kn}{gx:al}(X:Cb CH CB CU CC a s o dx gx B)(Y:Co CH CB CU CC a s ⟨o,dx,kn⟩ O K){n:Nat}{σ:az}(l:n<=B)(hs:O dx=some (.ns (n+1)<|aZ σ (ak "known")<|.ref kn))(hh:σ (ak "heap")=some (.ref a.h))(g:∀x,x≠ak "heap"->x≠ak "known"->σ x=none):Cb CH CB CU CC a s o dx O (B+1) where
 ob:=Y.at_.ob
 ns:=bv (n+1) _<|cx (yx l) hs (by unfold aZ;rw[if_neg (by decide+kernel)];calc hh) λx h1 j=>by unfold aZ;rw[if_neg j];exact g x h1 j
 hp:=Y.hp
 no:=X.no
 nx:=X.nx
 ne:=X.ne
noncomputable def nK(w o:Tm):Bool:=@decide (o≠w/\Inst w o)<|Gu _
theorem qO:nK w o=true↔o≠w/\Inst w o:=by unfold nK;calc @decide_eq_true_iff _<|Gu _
noncomputable def iQ(S:List Tm)(w:Tm):Bool:=(S.filter<|nK w).isEmpty
noncomputable def oA(S:List Tm):List Tm:=S.filter<|iQ S
theorem JF:iQ S w=true↔∀o∈S,¬(o≠w/\Inst w o):=by unfold iQ;rw[Ca,List.filter_eq_nil_iff];calc⟨λh o g hi=>h o g<|qO.mpr hi,λh o g hi=>h o g<|qO.mp hi⟩
theorem XE(t:Tm):∀r∈t.rows,r.rows.Sublist t.rows:=(Tm.ind (P:=λt=>∀r∈t.rows,r.rows.Sublist t.rows) (Q:=λl=>∀r∈Tm.bx l,r.rows.Sublist<|Tm.bx l) (λZ Z g r h=>(dD.mp h).elim (λe=>e▸ .refl _) λh=>(g r h).cons _) dF λZ Z h k r q=>(ca.mp q).elim (λq=>(h r q).trans<|J1 ..) λq=>(k r q).trans<|H3 ..).1 t
theorem Nh(t r:Tm)(h:r∈t.rows):r.rows.length<=t.rows.length:=(XE t r h).length_le
end
section
variable{c:Cx}{k:Nat}{V:Env}{O ah:al}{ρ:az}{CH CB CU CC:Addr}{a:cg}{s:Hp}{e:Nat}
theorem Ny(W:Wc c CH CB CU CC)(G:Good e s)(T2:mI s)(F:Fn c f<|bj (aK 16) 1)(X:Cb CH CB CU CC a s o dx O B)(hB:B<=400)(hx:x<s.nodes.length)(hy:y<s.nodes.length)(C:most<=4)(q:∀ah F S,Found s (root s.par x) (root s.par y) most F->S.Perm F->S.Pairwise (λt u=>cV (je u) (je t)=false)->Cb CH CB CU CC a s o dx ah (B+1)->Kb dx O ah->Q (.d<|.lst<|(oA S).map Tm.dt) ah):aW c (k+30) (.ref f) [.ref o,aY x,aY y,aY most] O Q:=by
 have b2:=W.w.len;have h7:=G.nz;have d9:x<s.par.length:=by rw[G.pl];exact hx
 have e0:y<s.par.length:=by rw[G.pl];exact hy
 have e4:∀z,z<s.par.length->qH s (root s.par z):=λz hz=>⟨by rw[<-G.pl];calc lN G.cH hz,by rw[nN G.cH (lN G.cH hz),if_pos (qZ G.cH z hz)]⟩;have a5:=e4 x d9;have a6:=e4 y e0;calc aE X.ns λn σ j=>bV j λhn c0 hh e5=>cY F rfl λV e6=>aU<|cz<|lG λkn b3=>?_;have k1:o≠kn:=λe=>by have:=X.ob;rw[e,b3] at this;exact bp this
 have k2:dx≠kn:=λe=>by rw[e,b3] at c0;exact bp c0
 calc jg ?_;lk;calc⟨o,CC,dx,_,_,rfl,(aC k1).trans X.ob,(aC k2).trans c0,(aq 570582706893361) hB hn,W.cls,W.known,?_⟩;have X2:=X.known hB hn c0 hh e5 b3;have c6:Kb dx O (upd (upd O kn<|.aM []) dx<|.ns (n+1)<|aZ σ (ak "known")<|.ref kn):=λb hb a7=>(aC hb).trans (aC λe:b=kn=>a7<|e▸b3);have I:=bo (O:=upd O kn<|.aM []) (a:=dx) (m:= .ns (n+1)<|aZ σ (ak "known")<|.ref kn);have e7:upd (upd O kn<|.aM []) dx (.ns (n+1)<|aZ σ (ak "known")<|.ref kn) kn≠none:=by rw[X2.kn];simp
 generalize upd (upd O kn<|.aM []) dx (.ns (n+1)<|aZ σ (ak "known")<|.ref kn)=a8 at X2 c6 I e7|-;calc aU<|cz<|lG λfd b4=>?_;have d3:fd≠kn:=λe=>e7<|e▸b4;have X3:=X2.push (m:= .aM<|eI []) b4;have D3:DictAt ⟨o,dx,kn⟩ fd [] a8 (upd a8 fd<|.aM<|eI []):=⟨bo,λb _ hb _=>aC hb⟩;rw[show(MO.aM [])= .aM (eI []) from rfl];generalize upd a8 fd (.aM<|eI [])=e8 at X3 D3|-;lk;calc gD (λ_=>rfl)<|mV (by rfl) (by rfl)<|gO (by tm_at"k") (by decide) W.mA.1 W.mA.2 ⟨_,rfl,.ty,?_⟩;lk;calc AU ((dL 0xaf0ef17f11f0ef11f25f17f)) ((aB 0xaf0ef17f1ef11f01f10ef1ef11f01f125f17f202f1) C) ?_;rw[O5,hH];refine forR (b:=1) (n:=most) [ak "size",ak "pattern"] (λi ah=>∃(L:List Tm) (K:Kn),Co CH CB CU CC a s ⟨o,dx,kn⟩ ah K/\DictAt ⟨o,dx,kn⟩ fd L a8 ah/\L.Nodup/\∀t,t∈L↔∃p,p.rows.length<i/\du s (root s.par x) (root s.par y) p/\t=(p.nm []).2) rfl ⟨[],[],X3,D3,hX,λt=>?_⟩ ?_ ?_
 .constructor
  .intro h;exact cX h
  .intro j;exact ai j λp l=>aw l λh _=>absurd h<|lX.mpr<|iK p
 .intro i ah d4 Q1 e9 g1 j ag g2;calc aE j λL K l=>bV l λD D' c1 a3=>ai (rg g1) λcnt J=>?_;have r1:=ag.tr (x:=ak "self") rfl rfl
  ·
   calc aE D.at_.ns λbF i7 j=>fi j λi8 c7 f0 i3 _=>?_;have f1:s.par.length<=1000:=by rw[G.pl];exact qd h7
   tm_at"1";calc aU<|gD (λ_=>rfl)<|eJ ?_;tm_at"m";calc bJ r1<|sL D.at_ W.cls W.shared (by decide+kernel) λg hg=>ba ?_;tm_at"m";calc tm (by rfl)<|bJ r1<|⟨_,_,_,_,_,_,rfl,D.at_.ob,c7,f0,rfl,W.cls,W.heap,eF D.hp.at_ W.w.H.cls W.w.kQ (by decide+kernel) λg' b5=>ba<|bJ (ag.tr rfl rfl) ?_⟩;lk;calc aW.up (k:=2) (ot (k:=0) W.w.H W.w.U W.w.kX b5 D.hp.at_ D.hp.un.at_ G.cH d9 f1<|ba ?_)<|(aB 9719189583);tm_at"m";calc tm (by rfl)<|bJ r1<|⟨_,_,_,_,_,_,rfl,D.at_.ob,c7,f0,rfl,W.cls,W.heap,eF D.hp.at_ W.w.H.cls W.w.kQ (by decide+kernel) λg' b5=>ba<|bJ (ag.tr rfl rfl) ?_⟩;lk;calc aW.up (k:=2) (ot (k:=0) W.w.H W.w.U W.w.kX b5 D.hp.at_ D.hp.un.at_ G.cH e0 f1 ?_)<|(aB 9719189583);lk;calc aW.up (Xp (k:=0) W G T2 4 i ((ax 0x202f1202f36c403f1) C J) e9 ((ax 0x202f1202f36c403f1) C J) _ _ _ _ _ _ hg D a5 a6 λg3 K4 ps X4 c2 c3=>?_)<|(aV 0x2434f340bf418f1e202f5603f40df1) C J;refine⟨_,rfl,forL (g:=λt:Tm=>PV.d t.dt) [ak "pattern"] (λdone ah=>∃Y:List Tm,Co CH CB CU CC a s ⟨o,dx,kn⟩ ah K4/\DictAt ⟨o,dx,kn⟩ fd Y a8 ah/\Y.Nodup/\∀t,t∈Y↔t∈L\/∃p∈done,t=(p.nm []).2) (bg ..) ⟨L,X4,(D'.kb d3 c2),c1,λt=>by simp⟩ ?_ ?_⟩
   .intro done p i4 ah d4 Q2 hd j a9 g4;refine ai j λY l=>bV l λD D' N a0=>?_
    ·
     have hp:=(c3.2 p).mp<|mid hd;have c8:=xK G a5.1 a6.1 hp.1 (by rw[hp.2];calc(aV 0x20bf1202f36c403f161a) C J hp.2);have f2:=Tm.tc p;tm_at"1";calc aU<|cz<|xB<|EJ<|bJ (a9.tr rfl<|ag.tr rfl rfl) ?_;calc eh W.named λ_ _=>?_;lk;calc lG λnm f3=>?_;lk;calc aW.up (WU (k:=0) W.named b2 W.w.tup 5 p ‹_› (by rw[hp.2] at f2;calc(cK 0x20bf1202f32586c40df56500f251) C e9 J hp.2 f2) c8 (vs:=[]) bo hX (by rw[hp.2];simp;calc(aV 0x210f1202f36c403f161a) C J hp.2) λc4 h5 g5=>?_)<|(aB 636956879096830);have f4:Kp ah c4:=λb hb=>(g5 b λe=>hb<|e▸f3).trans (aC λe:b=nm=>hb<|e▸f3);have X5:=D.keep f4;have D5:=D'.kb d3 f4.kb;have a1:∀t,t∈Y\/t=(p.nm []).2↔t∈L\/∃p'∈done++[p],t=(p'.nm []).2:=wk a0 λt=>uA
     have f5:∀t,t∈L\/(∃p'∈done++[p],t=(p'.nm []).2)->∃p,p.rows.length<=most/\du s (root s.par x) (root s.par y) p/\t=(p.nm []).2:=λt h=>by
      rcases h with h|⟨p',h,e⟩
      .exact ai ((a3 t).mp h) λp j=>aN j λh1 h2 h3=>⟨p,aR ((cK 0x2316c40df56500f751) J hp.2 h1) h2 h3⟩
      .have:=(c3.2 p').mp<|(ca.mp h).elim (yd hd) λh=>ci.mp h▸mid hd;exact⟨p',aR (by rw[this.2];calc(ax 150705800177) J) this.1 e⟩
     have g6:=FR G (by have:=a5.1;calc rh h7 this) (by have:=a6.1;calc rh h7 this) C N λt Z=>f5 t<|(a1 t).mp<|.inl Z;calc pN D5.1 (KE c8).1.key (by unfold small eI;rw[au];calc(aB 139033981169) g6) ?_;rw[Kg]
     have hN:(if(p.nm []).2∈Y then Y else Y++[(p.nm []).2]).Nodup/\∀t,t∈(if(p.nm []).2∈Y then Y else Y++[(p.nm []).2])↔t∈L\/∃p'∈done++[p],t=(p'.nm []).2:=by
      split
      .rename_i d5;exact⟨N,λt=>by rw[<-a1];calc⟨.inl,λh=>h.elim id λh=>h▸d5⟩⟩
      .rename_i d5;exact⟨kg N d5,λt=>by rw[<-a1,ca,ci]⟩
     generalize (if(p.nm []).2∈Y then Y else Y++[(p.nm []).2])=L3 at hN|-;have f6:=FR G (by have:=a5.1;calc rh h7 this) (by have:=a6.1;calc rh h7 this) C hN.1 λt Z=>f5 t<|(hN.2 t).mp Z;have D6:DictAt ⟨o,dx,kn⟩ fd L3 a8 (upd c4 fd<|.aM<|eI L3):=⟨bo,λb hb f7 hn=>(aC f7).trans<|D5.2 b hb f7 hn⟩;have X6:Co CH CB CU CC a s ⟨o,dx,kn⟩ (upd c4 fd<|.aM<|eI L3) K4:=by calc X2.same (λb hb hn=>?_) ((aC<|cI d3).trans X5.kn) X5.ok;exact D6.2 b hb (λe=>hn<|e▸b4) hn
     generalize upd c4 fd (.aM<|eI L3)=i9 at X6 D6|-;calc aU<|eG ?_;tm_at"m";calc bJ (a9.tr rfl r1)<|sL X6.at_ W.cls W.limited (by decide+kernel) λg b5=>ba<|bJ (a9.tr rfl<|ag.tr rfl rfl) ?_;lk;have d6:(eI L3).length=L3.length:=by unfold eI;rw[au]
     exact aW.up (Ex (k:=0) W b5 (m:=L3.length) (λ{k Q} q=>Ff D6.1 (by unfold small;calc(aq 569483186878001) f6 d6)<|by rw[d6];calc q) ((aq 623359256630803) f6 d6)<|cE<|g4 _ _ ⟨L3,X6,D6,hN.1,hN.2⟩<|a9.set rfl)<|(aB 9719190670)
   .intro ah d4 j a9;calc ai j λY l=>bV l λD D' N a0=>cE<|g2 _ _ ⟨Y,K4,D,D',N,λt=>?_⟩<|a9.up rfl<|ag.set rfl;rw[a0,a3];constructor
    .rintro (⟨p,h1,h2,h3⟩|⟨p,h,e⟩)
     .exact⟨p,aR (tA h1) h2 h3⟩
     .have:=(c3.2 p).mp h;exact⟨p,aR ((aq 8132145) this.2) this.1 e⟩
    .intro j;calc ai j λp l=>aN l λh1 h2 h3=>?_;by_cases h:p.rows.length=i
     .exact .inr ⟨p,(c3.2 p).mpr ⟨h2,h⟩,h3⟩
     .exact .inl ⟨p,aR (yw h1 h) h2 h3⟩
 .intro ah d4 j ag;refine aE j λL K l=>bV l λD D' c1 a3=>?_
  have hF:Found s (root s.par x) (root s.par y) most L:=⟨c1,λt=>by rw[a3];calc exists_congr λp=>and_congr_left λ_=>⟨λh1=>ng<|tR h1<|wK 1 most,λh1=>tR (oZ h1)<|wK most 1⟩⟩;have c9:=FR G (by have:=a5.1;calc rh h7 this) (by have:=a6.1;calc rh h7 this) C c1 λt Z=>(hF.2 t).mp Z;have d7:∀t∈L,cN t:=λt Z=>by calc ai ((hF.2 t).mp Z) λp j=>aN j λh1 h2 l=>?_;clear j;clear Z;subst l;exact(KE<|xK G a5.1 a6.1 h2<|aL h1<|aL C<|by decide).1
  obtain⟨fk,g7,i5,P⟩:=W.JM;refine aU<|cz<|Mc (by rfl) (by rfl)<|gO (by tm_at"k") (by decide) W.w.mE.1 W.w.mE.2 ⟨rfl,bJ (ag.tr rfl rfl)<|zI (by tm_at"k") (by decide) g7 ⟨fk,rfl,VL (key:=λd=>je<|zw d) D'.1 (by unfold eI;rw[au];calc(aB 490147557617) c9) (λd hd=>?_) (λd hd=>?_) λds a2 b6=>?_⟩⟩
  .rw[yi] at hd
   calc ai (bb.mp hd) λt j=>?_;have Z:=j.1;have l:=j.2;clear j;clear hd;subst l;have h5:=(d7 t Z).1;calc aW.up (Xk (k:=0) W.parts W.LD b2 W.w.tup P (n:=5) ((aq 576080256830451) (Tm.tc t) h5) ((dL 34009279)) ((aB 139302407153) h5) (λr hr=>?_) ⟨by rw[qQ];rfl,rfl⟩)<|(aB 0x244ff1484840bfe);have g8:r.kids.length<=r.rows.length:=by rw[yf,bP];have:=Tm.sZ r.kids;exact yB this
   exact(ax 0x206f120bf3251235) h5 g8<|Nh t r hr
  .rw[yi] at hd;calc ai (bb.mp hd) λt j=>aw j λZ l=>?_;clear j;clear hd;subst l;rw[qQ];exact DN<|d7 t Z
  rw[yi] at a2;calc ai (rQ a2) λS j=>?_;have hS:=j.1;have l:=j.2;clear j;clear a2;subst l;have g9:S.Pairwise (λt u=>cV (je u) (je t)=false):=by rw[OI] at b6;exact b6.imp λh=>by rw[qQ,qQ] at h;exact h
  have b7:∀t∈S,cN t:=λt Z=>d7 t<|hS.mem_iff.mp Z;have f8:S.length<=52:=by rw[hS.length_eq];exact c9
  have b0:=X.back D hn ((D'.2 dx k2 (λe=>by rw[e,b4] at I;calc bp I)<|by rw[I];simp).trans I) hh e5;have f9:Kb dx O ah:=λb hb a7=>by have h2:=c6 b hb a7;exact(D'.2 b (λe=>a7<|e▸b3) (λe=>a7<|by rw[<-h2,e];calc b4)<|by rw[h2];calc a7).trans h2
  tm_at"1";calc aU<|eX<|gN (by rw[e6];rfl) (λ_=>rfl)<|eJ ?_;lk;refine⟨_,rfl,Fv (g:=λt:Tm=>PV.d t.dt) (by rfl) (iQ S) Tm.dt (Kp ah) (bg ..) (aL f8<|by decide) Kp.refl ?_ λd0 hk=>aE b0.ns λnB h0 j=>bV j λh4 g0 h6 h8=>q d0 L S hF hS g9 {ob:=(hk _<|by rw[b0.ob];simp).trans b0.ob,ns:=bv nB h0<|cx h4 ((hk _<|by rw[g0];simp).trans g0) h6 h8,hp:=(D.keep hk).hp,no:=b0.no,nx:=b0.nx,ne:=b0.ne} (f9.trans hk.kb)⟩
  .intro cenv i6 w d0 hc T h9 hk
   ·
    have d1:=b7 w h9;tm_at"1";refine⟨T.aZ (by rfl) _,xP<|lP (by rfl)<|gN (by rw[hc];unfold fP pj;rw[e6];rfl) (λ_=>rfl)<|eJ<|cf (by unfold aZ;rw[if_neg (by decide),T _ (by rfl)];rfl)<|⟨_,rfl,Fv (g:=λt:Tm=>PV.d t.dt) (by rfl) (nK w) Tm.dt (Kp ah) (bg ..) (aL f8<|by decide) hk ?_ ?_⟩⟩
    .intro d8 i0 o e8 b1 TT i1 P
     ·
      have d2:=b7 o i1;have b8:d8.kindOf (ak "wide")=some .cell:=by unfold pj;rw[b1,mv];unfold pj;rw[hc,mv];rfl
      have b9:∀{v:PV},aZ i0 (ak "one") v (ak "wide")=some (.d w.dt):=λ{v}=>by unfold aZ;rw[if_neg (by decide),TT _ (by rfl)];rfl
      calc jL (hk:=by unfold pj;rw[b1,mv];rfl) ⟨TT.aZ (by rfl) _,xP<|rF<|rP<|lP (by rfl)<|bJ (hk:=by unfold pj;rw[b1,mv];rfl) (by rfl)<|cf (hk:=b8) b9<|kU d2.jM d1.jM ⟨_,rfl,?_⟩⟩;by_cases c5:o=w
      .refine cy (by rw[c5,decide_eq_true rfl];rfl)<|.no rfl ?_ P
       cases hb:nK w o with
       |false=>rfl
       |true=>exact absurd c5 (qO.mp hb).1
      .refine cB (by rw[decide_eq_false λh=>c5 (Tm.pE _ _ h)];rfl)<|rP<|uT<|eh W.covered (hk:=by unfold pj;rw[b1,mv];rfl) λ_ _=>ba<|bJ (hk:=by unfold pj;rw[b1,mv];rfl) (by rfl)<|ba<|cf (hk:=b8) b9 ?_
       lk;calc aW.up (k:=3) (QK (k:=0) b2 W.zip W.LH W.matched ‹_› d2 d1 λg3 b hb c2=>⟨_,rfl,?_⟩)<|(aB 9719189711);cases b with
       |false=>
        calc cy rfl<|.no rfl ?_<|P.trans c2;cases i2:nK w o with
        |false=>rfl
        |true=>calc absurd (hb.mpr (qO.mp i2).2) lr
       |true=>
        exact cB rfl<|rH<|.yes rfl (qO.mpr ⟨c5,hb.mp rfl⟩)<|bJ (hk:=by unfold pj;rw[b1,mv];rfl) (by rfl) ⟨rfl,P.trans c2⟩
    .refine λe8 P=>iG ?_;lk;calc⟨lb rfl,[],rfl,fe (wj λt Z=>b7 t (gK.mp Z).1) vq ⟨_,rfl,?_⟩⟩;by_cases hm:S.filter (nK w)=[]
     .have hb:iQ S w=true:=by unfold iQ;rw[hm];rfl
      exact .yes (decide_eq_true<|by rw[hm];rfl) hb<|cf (by rfl) ⟨rfl,P⟩
     .have hb:iQ S w=false:=by
       unfold iQ;cases h:S.filter (nK w) with
       |nil=>calc absurd h hm
       |cons _ _=>rfl
      calc .no (decide_eq_false λh=>hm<|by have:=Dt.lst.inj h;simpa using this) hb P
theorem Yv(W:Wc c CH CB CU CC)(C:iY c CC (ak "__init__") D)(F:Fn c D<|bj (aK 16) 0)(X:bN CH CB CU a O s)(q:∀o dx ah,Cb CH CB CU CC a s o dx ah 2->Kp O ah->O dx=none->Q (.ref o) ah):aW c (k+1+1) (.ref CC) [.ref a.h] O Q:=by
 calc kP.toT<|call_cls W.cls C λo dx z l j=>Bb F rfl λV H=>aU<|cz ?_;lk;calc jg ?_;lk;calc⟨o,CC,dx,_,_,rfl,bo,(aC<|cI j).trans bo,vM,W.cls,W.heap,aU<|cz<|lG λkn g=>?_⟩;have m:=(dE g);have g:=m.2;have p:=(dE g);have n2:=p.1;have g:=p.2;have r:=(dE g);have J:=r.1;have g:=r.2;calc jg ?_;lk;calc⟨o,CC,dx,_,_,rfl,(aC<|cI n2).trans<|(aC j).trans bo,(aC<|cI m.1).trans bo,(dL 34010254),W.cls,W.known,?_⟩;lk;refine⟨rfl,q o dx _ {ob:=(aC j).trans<|(aC<|cI n2).trans<|(aC j).trans bo,ns:=bv _ _<|cx (bS _) bo rfl λx h1 I=>?_,hp:=X.same λb hb=>?_,no:=X.fresh z,nx:=X.fresh l,ne:=j} (λb hb=>?_) l⟩
 .unfold aZ;rw[if_neg I,if_neg h1]
 .have e1:b≠o:=λe=>X.fresh z<|e▸hb;have e2:b≠dx:=λe=>X.fresh l<|e▸hb;have e3:b≠kn:=λe=>X.fresh g<|e▸hb;rw[aC e2,aC e3,aC e2,aC e1,aC e2]
 .have e1:b≠o:=λe=>hb<|e▸z;have e2:b≠dx:=λe=>hb<|e▸l;have e3:b≠kn:=λe=>hb<|e▸g;rw[aC e2,aC e3,aC e2,aC e1,aC e2]
noncomputable def ow(i j:Nat):List Tm:=(trees i).flatMap λt=>(trees j).map λu=>pT t u
theorem SP:∀n:Nat,2<=n->n<=4->(trees<|n -1).map fT++(cS<|n -2).flatMap (λr=>ow (r+1)<|n -1 -(r+1))=trees n:=by
 intro n h1 g;have hc:n=2\/n=3\/n=4:=(aB 0x1bf1bf602f160cf1604f12104f202f1) h1 g;rcases hc with rfl|rfl|rfl
 .show oE.map fT++[]=sx;rw[ea];rfl
 .show sx.map fT++(ow 1 1++[])=uW;rw[ea];rfl
 .show uW.map fT++(ow 1 2++(ow 2 1++[]))=Iq;rw[ea,<-eK];rfl
theorem uG:∀n:Fin 5,(trees n.val).length<=100:=by decide+kernel
noncomputable def fD:Dt->Dt:=λd=> .tup [.str (ak "f"),d]
theorem Vu(G:Glob c (ak "_law_trees")<|aK 24)(D:fJ c "range"):∀(N n:Nat) {f:Addr} {O:al} {Q:PV->al->Prop},n<=N->1<=n->n<=4->Fn c f (aK 24)->Q (.d<|lD<|trees n) O->aW c (k+N+1) (.ref f) [aY n] O Q:=by
 intro Z;induction Z with
 |zero=>
  calc λn f O Q h h1 m F q=>absurd (aL h1 h)<|gm _
 |succ N ih=>
  calc λn f O Q h h1 m F q=>cY F rfl λV H=>?_;lk;calc fe et et ⟨_,rfl,?_⟩;by_cases X:n=1
  .clear m h1 h;subst X
   calc cB (decide_eq_true rfl)<|aU<|eX<|iG<|ba<|cT ?_;lk;calc⟨lb rfl,.inl ⟨[_],rfl,ba<|cT ?_⟩⟩;lk;calc⟨lb rfl,.inl ⟨[_],rfl,ba<|cT ?_⟩⟩;lk;calc⟨lb rfl,.inl ⟨[_],rfl,?_⟩⟩;lk;calc⟨lb rfl,[_,_,_],rfl,?_⟩;have e:lD (trees 1)= .lst [.tup [.str (ak "a")],.tup [.str (ak "b")],.tup [.str (ak "?")]]:=by unfold lD trees oE wX xk hole;exact rfl
   rw[e] at q;exact q
  .refine cy (decide_eq_false<|by rw[Dt.int.injEq];calc(aB 0xd16f11f01f1d681) X)<|cE<|aU<|xH ((xM H).trans rfl) (H▸rfl) (λ_=>rfl)<|eJ ?_;calc eh G λ_ _=>?_;lk;rw[show((n:Int) -1)=((n -1:Nat):Int) from(aB 0x16f01f98124f11f01f1218202f1) h1 m];calc ih (n -1) ((aq 0x239812c1218202f1) h h1 m) ((dB [_] 0x29818218202f1d681) h1 m X) ((aB 0x202f981218202f1) h1 m) ‹_› ?_;have I:=uG ⟨n -1,(aB 0x70bf981218202f1) h1 m⟩;dsimp only at I;refine⟨_,rfl,mP _ fD (by rfl) (by unfold small;rw[au];calc Q9 I) (λcenv hc=>by tm_at"k") ?_ ?_⟩
   .refine λcenv C d hc T hd hm=>cT ?_;lk;tm_at"A";lk;exact⟨lb rfl,.inl ⟨[_,_],aR rfl rfl rfl⟩⟩
   have e0:((trees<|n -1).map Tm.dt).map fD=((trees<|n -1).map fT).map Tm.dt:=by rw[bg,bg];calc gZ λt _=>?_;show fD t.dt=(fT t).dt;unfold fT fD;rw[Tm.nR,Tm.AW,Tm.uH]
   rw[e0];lk;calc gD (λ_=>rfl)<|mV (by rfl) (by rfl)<|gO (by tm_at"k") (by decide) D.1 D.2 ⟨_,rfl,.ty,?_⟩;lk;calc AU ((dL 0xaf0ef17f11f0ef11f25f17f)) ((aB 0xaf0ef17f24f11f01f10ef24f11f01f125f17f218202f1) h1 m) ?_;rw[show((n:Int) -1 -1)=n -(2:Nat) from Int.sub_sub ..,Int.toNat_sub];refine Vn (n:=n -2) [ak "first",ak "found"] (λi C=>C (ak "found")=some (.d<|lD<|(trees<|n -1).map fT++(cS i).flatMap λr=>ow (r+1)<|n -1 -(r+1))) rfl ?_ ?_ ?_
   .show some _=some _;rw[List.range_zero,yP,ea];rfl
   .intro i C Q1 hi r2 ag a0;refine ai (Fs hi) λcnt j=>?_
    ·
     have J:=uG ⟨i+1,(ax 0x70bfb238202f36904f3403f1) h1 m j⟩;have L:=uG ⟨n -1 -(i+1),(ax 0x70bf9c981218202f16904f1403f3) h1 m j⟩;dsimp only at J L;tm_at"1";calc aU<|cz<|iD<|bJ r2<|gN (by rw[H];rfl) (λ_=>rfl)<|eJ ?_;calc eh G λ_ _=>?_;lk;calc ih (i+1) ((aV 0x23b2c56904f540df1) h j) ((ax 47856946730177) j) ((ax 0x202fb238202f36904f3403f1) h1 m j) ‹_›<|⟨_,rfl,?_⟩;have P:(ow (i+1)<|n -1 -(i+1)).length<=100*100:=by exact aL (jB (n:=100) λt _=>by rw[au];calc L)<|nc 100 J
     have S:((trees<|i+1).flatMap λt=>(trees<|n -1 -(i+1)).map λu=>(pT t u).dt)=(ow (i+1)<|n -1 -(i+1)).map Tm.dt:=by unfold ow;exact IQ Tm.dt (λ_=>trees<|n -1 -(i+1)) pT<|trees<|i+1
     refine EE (g:=λt:Tm=>PV.d t.dt) (by rfl) (by rfl) (λ_ _=>rfl) (λ_=>trees<|n -1 -(i+1)) (λu:Tm=>PV.d u.dt) (λt u=>(pT t u).dt) (λah=>ah=O) (bg ..) (by rw[S,au];calc aL P<|by decide) rfl ?_ ?_
     .intro cenv a6 t a7 hc T a8 p;subst p
      ·
       calc jL ⟨T.aZ (by rfl) _,eJ<|eh G λ_ _=>ba<|iD<|iD<|cf (by unfold aZ;rw[if_neg (by decide),T _ (by rfl)];calc ag.tr rfl rfl) ?_⟩;lk;calc cf (by unfold aZ;rw[if_neg (by decide),T _ (by rfl)];rfl) ?_;lk;rw[show((n:Int) -1 -((i+1:Nat):Int))=((n -1 -(i+1):Nat):Int) from(ax 0x16f01f9c98124f01fc24f11f01f16904f1403f3) j];calc ih (n -1 -(i+1)) ((aV 0x259c981203f16904f140df3) h j) ((ax 0x29c9818218202f16904f1403f3) h1 m j) ((ax 0x202f9c981218202f16904f1403f3) h1 m j) ‹_›<|⟨_,rfl,bg ..,rfl,λu hu a9 a3 U p=>?_⟩;subst p;refine jL ⟨λz hz=>?_,?_⟩
       .have:z≠ak "late":=λe=>hz (by rw[e];calc dC);unfold aZ;rw[if_neg this];exact U z hz
       .refine cT ?_;lk;calc bJ (by unfold aZ;rw[if_neg (by decide),U _ (by decide)];rfl) ?_;lk;exact⟨lb rfl,.inl ⟨[.str (ak "p"),t.dt,u.dt],rfl,by unfold pT;rw[Tm.nR,Tm.AW,Tm.AW,Tm.uH],rfl⟩⟩
     .intro a3 p;subst p;rw[S]
      have a5:((cS i).flatMap λr=>ow (r+1)<|n -1 -(r+1)).length<=i*10000:=by
       have:=jB (l:=cS i) (g:=λr=>ow (r+1)<|n -1 -(r+1)) (n:=10000) λr Y=>by have Y:=eM.mp Y;have a1:=uG ⟨r+1,(aV 0x70bfb238202f36904f340df5751) h1 m j Y⟩;have a2:=uG ⟨n -1 -(r+1),(aV 0x70bf9c981218202f16904f140df5753) h1 m j Y⟩;dsimp only at a1 a2;exact aL (jB (n:=100) λt _=>by rw[au];calc a2)<|nc 100 a1
       rwa [lS] at this
      calc Ay (by unfold small;rw[au,au,bA,au];calc(ax 0x205f4543120ff1251f3250f5) I (aL a5<|nc 10000<|show i<=2 from(aq 0x204f17904f31202f3) hi m) P) ?_;lk;calc a0 _ ?_<|(ag.set rfl).set rfl;show some _=some _;rw[<-cb,Cd,wy,eK,tT,yP,ea];rfl
   .intro C r2 ag;lk;tm_at"A";rw[SP n ((dB [_] 0x2104f218202f1d681) h1 m X) m];calc q
end
section
variable{c:Cx}{k:Nat}{V:Env}{O ah:al}{ρ:az}
noncomputable def vE(e:Tm×Nat):Dt:= .tup [e.1.dt,.int (e.2:Nat)]
noncomputable def rN(x:Str)(e:List Tm×Nat):Dt:= .tup [(Tm.nd x e.1).dt,.int (e.2:Nat)]
theorem Ig{P:Tm->Nat->Tm->Nat->Prop}{Q:List Tm->Nat->List Tm->Nat->Prop}(L:∀m k,k<=m->P (.nd (ak "?") []) m (qv k) (max m<|k+1))(N:∀x l m g m',¬(x=ak "?"/\l.isEmpty=true)->Q l m g m'->P (.nd x l) m (.nd x g) m')(h0:∀m,Q [] m [] m)(hc:∀t C m J k g m',P t m J k->Q C k g m'->Q (t::C) m (J::g) m')(t:Tm):∀m,∀q∈t.sp m,P t m q.1 q.2:=(Tm.ind (P:=λt=>∀m,∀q∈t.sp m,P t m q.1 q.2) (Q:=λl=>∀R,∀r∈Tm.nJ l R,∃j∈R,∃g,r.1=j.1++g/\Q l j.2 g r.2) (λx l S m q z=>by
   rw[Tm.xg] at z;by_cases h:x=ak "?"/\l.isEmpty=true
   .rw[if_pos h] at z;rw[h.1,Ca.mp h.2];exact ai (bb.mp z) λk p=>p.2▸L m k (ng<|eM.mp p.1)
   .rw[if_neg h] at z;calc ai (bb.mp z) λr p=>ai (S _ r p.1) λj a=>ai a.2 λg b=>?_;rw[ci.mp a.1] at b;calc p.2▸N x l m r.1 r.2 h (b.1▸b.2))
  (λZ r D=>⟨r,D,[],(ea _).symm,h0 _⟩)
  λt C H I R r D=>ai (I _ r D) λT a=>ai a.2 λg b=>ai (gI.mp a.1) λj c=>ai (bb.mp c.2) λq d=>by rw[<-d.2] at b;calc⟨j,c.1,q.1::g,b.1.trans<|eK ..,hc t C j.2 q.1 q.2 g r.2 (H j.2 q d.1) b.2⟩).1 t
theorem Io(t:Tm):∀m,∀q∈t.sp m,q.2<=m+t.rows.length:=Ig (P:=λt m Z k=>k<=m+t.rows.length) (Q:=λl m Z k=>k<=m+(Tm.bx l).length) (λm k hk=>qA.mpr ⟨oa m,iv hk⟩) (λZ Z Z Z Z Z h=>nf h) (λZ=>bS _) (λt j m Z k Z p h1 g=>aL g<|aL (wx h1 _)<|fO<|(sg ..).trans<|congrArg _ bA.symm) t
theorem KL(t:Tm):∀m M,m+t.rows.length<=M->(t.sp m).length<=(M+1)^t.rows.length:=(Tm.ind (P:=λt=>∀m M,m+t.rows.length<=M->(t.sp m).length<=(M+1)^t.rows.length) (Q:=λl=>∀(R:List<|List Tm×Nat) m M,(∀r∈R,r.2<=m)->m+(Tm.bx l).length<=M->(Tm.nJ l R).length<=R.length*(M+1)^(Tm.bx l).length) (λx l I m M h=>by
   rw[Tm.xg];by_cases C:x=ak "?"/\l.isEmpty=true
   .rw[if_pos C,au,lS];exact aL (iv<|aL (kI ..) h)<|Nat.le_self_pow (OS _) _
   .rw[if_neg C,au];calc aL (aL (I [([],m)] m M (fa (bS _) dF)<|ja h)<|fO<|CA _)<|BQ (ph M)<|oa _)
  (λZ Z Z Z Z=>fO (Nat.mul_one _).symm)
  λt g j p R m M D h=>by
   have h:m+t.rows.length+(Tm.bx g).length<=M:=by rw[sg,<-bA];exact h
   calc aL (p _ (m+t.rows.length) M (λr z=>ai (gI.mp z) λH a=>ai (bb.mp a.2) λq b=>b.2▸aL (Io t H.2 q b.1) (wx (D H a.1) _)) h) ?_;rw[show Tm.bx (t::g)=t.rows++Tm.bx g from rfl,bA,HJ,<-Pl];calc nc _<|jB λr z=>by rw[au];calc j r.2 M<|aL (wx (D r z) _)<|aL (kI ..) h).1 t
theorem XH(t:Tm)(d:List Tm):∀R,Tm.nJ (d++[t]) R=(Tm.nJ d R).flatMap λr=>(t.sp r.2).map λq=>(r.1++[q.1],q.2):=by
 induction d with
 |nil=>intro R;calc rfl
 |cons e d g=>intro R;show Tm.nJ (e::(d++[t])) R=(Tm.nJ (e::d) R).flatMap _;calc g _
theorem Xq(G:Glob c (ak "_law_spelled")<|aK 25)(N:fJ c "range")(a5:eO c "max"):∀(n:Nat) (t:Tm) {k m:Nat} {f:Addr} {O:al} {Q:PV->al->Prop},Fn c f (aK 25)->t.dZ<=n->cN t->m+t.rows.length<=4->Q (.d<|.lst<|(t.sp m).map vE) O->aW c (k+n+1) (.ref f) [.d t.dt,aY m] O Q:=by
 intro b4;induction b4 with
 |zero=>
  intro b5;cases b5 with
  |nd x l=>
   intro k m f O Q F hn ho hz q;calc absurd hn<|gm _
 |succ n b6=>
  intro b7;cases b7 with
  |nd x l=>
   intro k m f O Q F hn ho hz q;rw[Tm.vQ] at hn;have C:(Tm.nd x l).rows.length=(Tm.bx l).length+1:=by rw[Tm.jJ,bP]
   rw[C] at hz;have S:l.length<=5:=ho.kids;calc cY F rfl λV U=>?_;lk;calc cT ?_;lk;calc⟨by calc lb rfl,.inl ⟨[.str (ak "?")],rfl,?_⟩⟩;have X:Dt.tup [.str (ak "?")]=hole.dt:=by unfold hole;rw[Tm.nR,Tm.uH]
   rw[X];have b8:cN hole:=⟨by unfold hole;rw[Tm.jJ,Tm.pV];decide,λr C=>by unfold hole at C;rw[Tm.jJ,Tm.pV,ci] at C;rw[C];calc⟨by decide+kernel,by decide+kernel,by decide+kernel⟩⟩;calc fe ho.jM b8.jM ⟨_,rfl,?_⟩;rw[Tm.xg] at q;by_cases hh:x=ak "?"/\l.isEmpty=true
   .rw[if_pos hh] at q
    have b9:Tm.nd x l=hole:=by calc aw hh λp hl=>?_;clear hh;clear ho C;subst p;rw[Ca] at hl;rw[hl];rfl
    calc cB (decide_eq_true<|by rw[b9])<|aU<|eX<|gN (by rw[U];rfl) (λ_=>rfl)<|mV (by rfl) (by rfl)<|gO (by tm_at"k") (by decide) N.1 N.2 ⟨_,rfl,.ty,?_⟩;lk;refine xj (by calc(ax 0xaf0ef17f1ef11f01f10ef1ef11f01f125f17f202f4c16c5) hz C) ?_
    have c0:∀(i:Nat) (n:Nat),iota (i:Int) n=(List.range' i n).map λj=>((j:Nat):Int):=by
     intro i n;induction n generalizing i with
     |zero=>rfl
     |succ n ih=>
      exact congrArg (_::·)<|ih<|i+1
    rw[show((m:Int)+1).toNat=m+1 from rfl,show(0:Int)=((0:Nat):Int) from rfl,c0 0,<-List.range_eq_range',bg];refine An (cS<|m+1) _ (λk=>vE (qv k,max m<|k+1)) (by rfl) (by unfold small;rw[lS];calc(ax 0x205fb202f4c16c5) hz C) (λcenv a6 d hc T hm=>?_) ?_
    .have hd:=eM.mp hm;calc jL ⟨T.aZ (by rfl) _,cT<|ba<|cT<|ba<|Dh<|rn ?_⟩;lk;calc⟨_,rfl,by unfold small;decide+kernel,rn<|zV ?_⟩;lk;calc⟨_,rfl,zt<|by calc(aV 0x20ff1202f403f3603fa7c1) hz C hd,_,rfl,AI<|by calc(aV 0x20ff1202f403f3603fa7c1) hz C hd,Dv (AI<|by calc(aV 0x20ff1202f403f3603fa7c1) hz C hd)<|iT ⟨by calc lb rfl,.inl ⟨[.str (gW d)],rfl,ba<|rJ a5 (by tm_at"k") (by decide) (by rfl) (by rfl)<|ba<|cf (by unfold aZ;rw[if_neg (by decide),T _ (by rfl)];rfl) ?_⟩⟩⟩;lk;refine Ud<|iT ⟨by calc lb rfl,.inl ⟨[.tup [.str (gW d)],.int (max m (d+1):Nat)],aR ?_ ?_ rfl⟩⟩
     .show[PV.d _,PV.d (Dt.int<|if((d:Int)+1)>(m:Int) then((d:Int)+1) else(m:Int))]=_
      have:(if((d:Int)+1)>(m:Int) then((d:Int)+1) else(m:Int))=((max m (d+1):Nat):Int):=by
       by_cases h:m<d+1
       .rw[if_pos (by calc(aq 0x8f1ef11f01f301f17b37c1) hd h)];exact(aq 0x16f01f19fb31ef11f01f17c17b3) hd h
       .rw[if_neg (by calc(aq 0xd08f1ef11f01f301f1d7c1) h)];exact(aq 0x16f01f19fc101f1d7c1) h
      rw[this];rfl
     .show _=PV.d (vE _);unfold vE qv;rw[Tm.nR,Tm.uH]
    rw[bg] at q;exact q
   .rw[if_neg hh] at q;refine cy (decide_eq_false λh=>hh ?_) ?_
    .have:=Tm.pE _ _ h;unfold hole at this;exact aw (Tm.nd.inj this) λh1 h2=>⟨h1,by rw[h2];rfl⟩
    calc cE<|aU<|cz<|iG<|ba<|cT ?_;have c1:(Tm.nd x l).dt= .tup (.str x::l.map Tm.dt):=(Tm.nd x l).jv;rw[c1];lk;calc LA (by unfold small;rw[bP,au];calc nT S) ?_;lk;calc⟨by calc lb rfl,.inl ⟨[.tup [.str x],.int (m:Nat)],rfl,?_⟩⟩;lk;calc⟨by calc lb rfl,[_],rfl,?_⟩;lk;calc gD (λ_=>rfl)<|oq ?_;lk;calc il (by calc lb rfl) (by unfold small;rw[bP,au];calc nT S) ?_;rw[uf,uc];refine⟨_,rfl,xq (g:=λt:Tm=>PV.d t.dt) [ak "kid",ak "rows"] (λdone Y=>∃rows:List<|List Tm×Nat,Y (ak "rows")=some (.d<|.lst<|rows.map<|rN x)/\Tm.nJ done [([],m)]=rows/\rows.length<=5^(Tm.bx done).length/\∀r∈rows,r.2<=m+(Tm.bx done).length/\r.1.length=done.length) (bg ..) ⟨[([],m)],cx ?_ rfl (by rw[Tm.pV];calc bS 1) ?_⟩ ?_ ?_⟩
    .show some _=some _;unfold rN;rw[dK,yU,Tm.nR,Tm.uH]
    .intro r C;rw[ci.mp C];exact⟨kI m _,rfl⟩
    .intro done t a7 Y Q1 hd p ag c2;refine ai p λrows D=>bV D λH Z a0 I=>?_
     ·
      have a8:t∈l:=mid hd;have J:(Tm.bx l).length=(Tm.bx done).length+(t.rows.length+(Tm.bx a7).length):=by rw[hd,Tm.oN,bA,Tm.iP,bA]
      have a9:∀j,j<=4->5^j<=625:=λj hj=>by exact aL (BQ (show 0<5 from(dL 461822)) hj)<|by decide
      have a3:∀r∈rows,(t.sp r.2).length<=5^t.rows.length/\∀q∈t.sp r.2,q.2<=r.2+t.rows.length:=λr C=>⟨KL t r.2 4<|by have:=(I r C).1;calc(oo 0x202f431202f40df560df00f64413f307fa2407f51) hz (by assumption) J this,Io t r.2⟩;tm_at"1";calc aU<|xH ((xM U).trans rfl) (U▸rfl) (λ_=>rfl)<|eJ<|bJ H<|⟨_,rfl,?_⟩;have c3:(rows.flatMap λr=>(t.sp r.2).map λq=>(r.1++[q.1],q.2)).length<=rows.length*625:=jB λr' L=>by rw[au];exact aL (a3 r' L).1<|a9 t.rows.length<|by exact(dU 0x202f1202f403f3603fa64407f100f5) hz C J
      have b0:(rows.flatMap λr=>(t.sp r.2).map λq=>rN x (r.1++[q.1],q.2))=(rows.flatMap λr=>(t.sp r.2).map λq=>(r.1++[q.1],q.2)).map (rN x):=IQ (rN x) (λr:List Tm×Nat=>t.sp r.2) (λr q=>(r.1++[q.1],q.2)) rows;refine EE (g:=λr=>PV.d<|rN x r) (by rfl) (by rfl) (λ_ _=>rfl) (λr:List Tm×Nat=>t.sp r.2) (λu=>PV.d<|vE u) (λr q=>rN x (r.1++[q.1],q.2)) (λah=>ah=O) (bg ..) (by rw[b0,au];calc aL c3<|aL (nc 625<|aL a0<|a9 (Tm.bx done).length<|by calc(dU 0x202f1202f403f3603fa64407f00f15) hz C J)<|by decide) rfl ?_ ?_
      .intro cenv a6 r c7 hc T c4 p;subst p
       ·
        have P:=I r c4;show cW _ _ _ _ _ (.d<|.tup [(Tm.nd x r.1).dt,.int (r.2:Nat)]) _ _;tm_at"2";calc⟨(T.aZ (by rfl) _).aZ (by rfl) _,eJ<|eh G λ_ _=>ba<|cf (by unfold aZ;rw[if_neg (by decide),if_neg<|by decide,T _ (by rfl)];rfl) ?_⟩;lk;calc b6 t ‹_› (by have:=Tm.qX a8;calc sy hn this) (ho.kt a8) (by calc(dB [_,_,_,_,_,_,_,_,_] 0x202f431202f40df560df00f64413f307fa0af63df3cf2407f51) hz C J P)<|⟨_,rfl,bg ..,rfl,λu hu c8 c5 b1 p=>?_⟩;subst p
        ·
         ·
          show cW _ _ _ _ _ (.d<|.tup [u.1.dt,.int (u.2:Nat)]) _ _;tm_at"2";refine⟨λz hz=>?_,?_⟩
          .have h1:z≠ak "one":=λe=>hz (by rw[e];calc dC);have h2:z≠ak "late":=λe=>hz (by rw[e];calc dw _ dC);unfold aZ;rw[if_neg h2,if_neg h1];exact b1 z hz
          .refine cT<|ba<|iD<|bJ (by unfold aZ;rw[if_neg (by decide),if_neg<|by decide,b1 _ (by decide)];rfl)<|cT ?_;lk;calc⟨by calc lb rfl,.inl ⟨[u.1.dt],rfl,?_⟩⟩;rw[show(Tm.nd x r.1).dt= .tup (.str x::r.1.map Tm.dt) from(Tm.nd x r.1).jv];calc qi (by unfold small;simp only[bP,au,Hl];calc(cK 0x205f448eb20bf30af6312400fa5) (aL (ja<|nS hd) S) P) ?_;lk;calc⟨by calc lb rfl,.inl ⟨[.tup ((.str x::r.1.map Tm.dt)++[u.1.dt]),.int (u.2:Nat)],rfl,?_,rfl⟩⟩;unfold rN;rw[show(Tm.nd x<|r.1++[u.1]).dt= .tup (.str x::(r.1++[u.1]).map Tm.dt) from(Tm.nd x<|r.1++[u.1]).jv,cb];rfl
      .intro c5 p;subst p;tm_at"1";refine cE<|c2 _ ⟨_,cx (by rw[b0];rfl) (by rw[XH,Z]) ?_ ?_⟩<|(ag.set rfl).set rfl
       .rw[Tm.oN,bA,Tm.iP,Tm.pV,ea,HJ];exact aL (jB (n:=5^t.rows.length) λr C=>by rw[au];calc(a3 r C).1)<|nc _ a0
       .refine λr L=>ai (gI.mp L) λr' p=>aw p λb2 b3=>ai (bb.mp b3) λq' p=>aw p λc6 D=>?_;clear p;clear L b3 p;subst D;have a1:=I r' b2;have a2:=(a3 r' b2).2 q' c6;rw[Tm.oN,bA,Tm.iP,Tm.pV,ea];calc⟨by show q'.2<=_;calc(dB [_,_,_,_,_,_,_] 0x244a5310af613f07f245300f24a00f1) a1 a2,?_⟩;show(r'.1++[q'.1]).length=_;rw[bA,bA,a1.2];rfl
    .intro Y p ag;calc ai p λrows D=>bV D λH Z a0 I=>?_;lk;tm_at"A";rw[Z,bg] at q;calc q
theorem Ij(h:gT x):∃g,x.cps[(0:Int).toNat]? =some g/\gp ⟨#[g]⟩=true/\(decide (Dt.str ⟨#[g]⟩=Dt.str (ak "?"))=isQ x):=by
 obtain⟨h1,j,l⟩:=h
 have he:x.cps.extract 0 1=#[x.cps[0]]:=by
  apply Array.ext
  .simp;exact(aB 0x6815f18218206f1) j l
  .intro i p m
   have:i=0:=by simpa using m
   subst this;simp
 refine⟨x.cps[0],aR (ct j) ?_ ?_⟩
 .rw[<-he];exact Dk h1
 .unfold isQ;rw[he];calc decide_eq_decide.mpr<|by rw[Dt.str.injEq]
theorem fc.fg(h:fc t):t.fg=isQ t.str:=by
 unfold Tm.fg isVar;cases g:isQ t.str with
 |true=>
  unfold isQ at g;rw[(h.2 t (uQ t) g),g];rfl
 |false=>
  unfold isQ at g;rw[g,Pe]
theorem ZO(j:Nat):mU (.lst<|Cm j<|.int 1):=by
 have:∀j,Dt.fA (Cm j<|Dt.int 1)=true/\Dt.kB (Cm j<|Dt.int 1)=true/\Dt.dG (Cm j<|Dt.int 1)=0:=by
  intro j;induction j with
  |zero=>calc aR rfl rfl rfl
  |succ j g=>
   exact aR (jx rfl g.1) (jx rfl g.2.1)<|(Nat.zero_max _).trans g.2.2
 calc aN (this j) λh1 h l=>⟨h1,h,iv<|aL (fO l)<|lb rfl⟩
theorem Vd(G:Glob c (ak "_law_is_instance")<|aK 27)(c9:eO c "len")(Z:fJ c "zip"):∀(n:Nat) (W N:Tm) {k:Nat} {f tb:Addr} {tab:List<|Str×Tm} {O:al} {Q:PV->al->Prop},Fn c f (aK 27)->W.dZ<=n->fc W->cN N->O tb=some (.aM<|mL tab)->(tab.map (·.1)).Nodup->(∀e∈tab,cN e.2)->tab.length+W.rows.length<=20->(∀ah b m,ah tb=some (.aM<|mL m)->(∀x,x≠tb->ah x=O x)->(m.map (·.1)).Nodup->(∀e∈m,cN e.2)->m.length<=tab.length+W.rows.length->(∀σ,Agree σ m->Agree σ tab)->(b=true->∀σ,Agree σ m->W.sub σ=N)->(∀σ,Agree σ tab->W.sub σ=N->b=true/\Agree σ m)->Q (.d<|.bool b) ah)->aW c (k+n+1) (.ref f) [.d N.dt,.d W.dt,.ref tb] O Q:=by
 intro b7;induction b7 with
 |zero=>
  intro b8;cases b8 with
  |nd x l=>
   calc λN k f tb tab O Q F hn hW hN hm J D hz q=>absurd hn<|gm _
 |succ n ih=>
  intro b9;cases b9 with
  |nd x l=>
   intro N k f tb tab O Q F hn hW hN hm J D hz q;rw[Tm.vQ] at hn;have hr:(Tm.nd x l).rows.length=(Tm.bx l).length+1:=by rw[Tm.jJ,bP]
   have hs:gT x:=hW.1.str;have c0:=hN.str;have c1:=hN.kids;have Y:l.length<=5:=hW.1.kids;calc ai (Ij hs) λch r=>aN r λc2 c3 b0=>?_;have hv:(Tm.nd x l).fg=isQ x:=hW.fg;have c4:(Tm.nd x l).dt= .tup (.str x::l.map Tm.dt):=(Tm.nd x l).jv;calc cY F rfl λV c5=>?_;rw[c4];lk;calc eY (eT) (eV) rfl ?_;lk;calc Ee (eT) (eV) c2 ?_;lk;calc fe (ie c3) (ie<|by decide+kernel) ⟨_,rfl,?_⟩;rw[b0];by_cases hq:isQ x=true
   .have C:∀σ,(Tm.nd x l).sub σ=σ x:=λσ=>by rw[Tm.sub_eq,if_pos (by rw[hv];calc hq)];rfl
    calc cB hq<|aU<|eX<|sD (by rfl) ?_;tm_at"m";lk;calc vU hm yH BG ?_;lk;calc eY (eT) (eV) rfl ?_;lk;calc yu hm ⟨hs.1,qe⟩ (by unfold small mL;rw[au];calc(ax 0x205f1226f431603f3) hz hr) λp' b3 c6=>?_;lk;rcases c6 with⟨hg,rfl⟩|⟨hg,rfl,rfl⟩
    .refine ai (MH hg) λu r=>?_;have hu:=r.1;have H:=r.2;clear r;clear hg;subst H;refine fe (D _ hu).jM hN.jM<|q _ _ tab hm (λ_ _=>rfl) J D ((ax 155442349043) hr) (λ_ h=>h) (λh σ z=>?_) λσ z h=>⟨?_,z⟩
     .have e:σ x=u:=z _ hu;rw[C,e];exact Tm.pE _ _<|of_decide_eq_true h
     .have e:σ x=u:=z _ hu;rw[C,e] at h;exact decide_eq_true<|by rw[h]
    .refine fe hN.jM hN.jM ?_;rw[MG] at hg;refine q _ _ (tab++[(x,N)]) (by rw[bo];unfold mL;rw[cb];rfl) (λy hy=>aC hy) ?_ ?_ (by rw[bA,gG];calc(ax 155452834803) hr) (λσ h e he=>h e<|dh _ he) (λ_ σ z=>?_) λσ z h=>⟨decide_eq_true rfl,λe he=>?_⟩
     .rw[cb];exact kg J λh=>hg<|cL h
     .intro e he;rcases ca.mp he with h|h
      .exact D e h
      .rw[ci.mp h];exact hN
     .rw[C];exact z (x,N)<|cn _<|.head _
     .rcases ca.mp he with h'|h'
      .exact z e h'
      .rw[ci.mp h',<-h,C]
   .have C:∀σ,(Tm.nd x l).sub σ= .nd x (l.map<|Tm.sub σ):=λσ=>by rw[Tm.sub_eq,if_neg (by rw[hv];calc hq)];rfl
    have cv:∀{σ},(Tm.nd x l).sub σ=N->N.str=x/\N.kids=l.map (Tm.sub σ):=λ{σ} h=>by rw[C] at h;rw[<-h];exact⟨rfl,rfl⟩
    calc cy (by simpa using hq)<|cE<|aU<|pU<|rF<|rL ?_;lk;rw[N.jv];calc eY (eT) (eV) rfl ?_;lk;calc eY (eT) (eV) rfl<|kU (ie c0.1) (ie hs.1) ⟨_,rfl,?_⟩;by_cases e1:N.str=x
    .refine cy (by rw[decide_eq_true (by rw[e1])];rfl)<|rL ?_;lk;calc kZ (by unfold small;rw[bP,au];calc nT c1) ?_;lk;calc kZ (by unfold small;rw[bP,au];calc nT Y)<|kU et et ⟨_,rfl,?_⟩;rw[bP,bP,au,au];by_cases e2:N.kids.length=l.length
     .refine cy (by rw[decide_eq_true (by rw[e2])];rfl)<|rH<|cy rfl<|cE<|aU<|eX<|sD (by rfl)<|gN (by rw[c5];rfl) (λ_=>rfl)<|mV (by rfl) (by rfl)<|gO (by tm_at"k") (by decide) Z.1 Z.2 ⟨_,rfl,.ty,?_⟩;lk;calc il (lb rfl) (by unfold small;rw[bP,au];calc(aq 569526097753649) Y e2) ?_;lk;calc il (lb rfl) (by unfold small;rw[bP,au];calc nT Y)<|iT ?_;rw[uf,uf,uc,uc];calc Nr (by rw[au,au,e2]) ?_;rw[LX];refine KZ (g:=qE) (l:=N.kids.zip l) (by rfl) (λdone a3 ah=>∃(m:List<|Str×Tm) (j:Nat),a3=Cm j (.int 1)/\j<=done.length/\ah tb=some (.aM<|mL m)/\(∀y,y≠tb->ah y=O y)/\(m.map (·.1)).Nodup/\(∀e∈m,cN e.2)/\m.length<=tab.length+(Tm.bx (done.map (·.2))).length/\(∀σ,Agree σ m->Agree σ tab)/\ (j=0->∀σ,Agree σ m->∀e∈done,e.2.sub σ=e.1)/\(∀σ,Agree σ tab->(∀e∈done,e.2.sub σ=e.1)->j=0/\Agree σ m)) rfl (bv tab 0<|Ut rfl (bS _) hm (λ_ _=>rfl) J D ((aq 148241)) (λ_ h=>h) (λ_ _ _ e he=>(cX he)) λ_ h _=>⟨rfl,h⟩) ?_ ?_
      .intro cenv d0 done p b4 a3 ah hc T hd r;calc aE r λm j H=>IB H λa5 hj hm' a6 L P S I h1 h2=>?_;clear r H q;subst a5
       ·
        have a7:=Ce (a:=p.1) (b:=p.2)<|mid hd;have a8:(N.kids.zip l).map (·.2)=l:=by rw[<-Hq,Ck e2]
        have b5:(Tm.bx l).length=(Tm.bx (done.map (·.2))).length+(p.2.rows.length+(Tm.bx (b4.map (·.2))).length):=by rw[<-a8,hd,cb,dK,Tm.oN,bA,Tm.iP,bA]
        have c7:done.length<=5:=aL (ja<|nS hd) (by rw[S7,e2,HA];calc Y);calc⟨by unfold small;rw[List.length_replicate];calc(aq 569483187063795) hj c7,?_⟩;show cW _ _ _ _ _ (.d<|.tup [p.1.dt,p.2.dt]) _ _;tm_at"2";calc⟨(T.aZ (by rfl) _).aZ (by rfl) _,xP<|Fb<|uT<|eh G λ_ _=>?_⟩;lk;calc cf (by unfold aZ;rw[if_neg (by decide),if_neg<|by decide,T _ (by rfl)];rfl) ?_;lk;calc ih p.2 p.1 ‹_› (by have:=Tm.qX a7.2;calc sy hn this) (hW.kt a7.2) (hN.kt a7.1) hm' L P ((oo 0x226f431226f4a562bfa2407f5164413f307f00f) hz hr S b5) λb3 b U g1 g2 g3 g4 g5 g6 g7 g8=>⟨b,rfl,?_⟩;have a0:∀y,y≠tb->b3 y=O y:=λy hy=>(g2 y hy).trans<|a6 y hy;have X:U.length<=tab.length+(Tm.bx ((done++[p]).map (·.2))).length:=by rw[cb,Tm.oN,bA,dK,Tm.iP,yU,Tm.pV,ea];exact(cK 0x244a531245300f24a00f1) S g5
        have tJ:∀σ,(∀e∈done++[p],e.2.sub σ=e.1)↔(∀e∈done,e.2.sub σ=e.1)/\p.2.sub σ=p.1:=λσ=>by
         constructor
         .intro h;exact⟨λe he=>h e<|dh _ he,h p<|cn _<|.head _⟩
         .intro r;intro e he;rcases ca.mp he with he|he
          .exact r.1 e he
          .rw[ci.mp he];exact r.2
        cases b with
        |true=>
         calc cy rfl ⟨U,j,rfl,by rw[bA];calc(ax 609423921) hj,g1,a0,g3,g4,X,λσ h=>I σ<|g6 σ h,λa9 σ h=>(tJ σ).mpr ⟨h1 a9 σ<|g6 σ h,g7 rfl σ h⟩,λσ h h'=>aw ((tJ σ).mp h') λa1 a2=>aw (h2 σ h a1) λb1 b2=>⟨b1,(g8 σ b2 a2).2⟩⟩
        |false=>
         exact cB rfl<|xF ⟨_,rfl,U,j+1,by rw[List.replicate_succ'],by rw[bA,gG];calc yx hj,g1,a0,g3,g4,X,λσ h=>I σ<|g6 σ h,λh=>absurd h<|OS _,λσ h h'=>aw ((tJ σ).mp h') λa1 a2=>aw (h2 σ h a1) λb1 b2=>absurd (g8 σ b2 a2).1<|rK⟩
      .intro a3 ah r;calc aE r λm j H=>IB H λa5 hj hm' a6 L P S I h1 h2=>?_;clear r H;subst a5
       have a8:(N.kids.zip l).map (·.2)=l:=by rw[<-Hq,Ck e2]
       rw[a8] at S
       have kids:∀σ,(∀e∈N.kids.zip l,e.2.sub σ=e.1)↔l.map (Tm.sub σ)=N.kids:=λσ=>by
        rw[<-Ii e2.symm];unfold qR;constructor
        .intro h e he
         have:(e.2,e.1)∈N.kids.zip l:=by calc ai (gk.mp he) λi hi=>?_;rw[Gs] at hi;exact gk.mpr ⟨i,by rw[Gs];calc⟨hi.2,hi.1⟩⟩
         exact h _ this
        .intro h e he
         have:(e.2,e.1)∈l.zip N.kids:=by calc ai (gk.mp he) λi hi=>?_;rw[Gs] at hi;exact gk.mpr ⟨i,by rw[Gs];calc⟨hi.2,hi.1⟩⟩
         exact h _ this
       calc iG ?_;lk;calc⟨lb rfl,[],rfl,fe (ZO j) vq ?_⟩;have c8:N= .nd N.str N.kids:=by cases N;rfl
       refine q ah _ m hm' a6 L P ((aV 0x2453160df524a31) hr S) I (λhb σ z=>?_) λσ z h=>?_
       .have a9:j=0:=by
         simpa using(congrArg Cw<|Dt.lst.inj<|of_decide_eq_true hb)
        rw[C,(kids σ).mp<|h1 a9 σ z,c8,e1];rfl
       .have b6:=(h2 σ z<|(kids σ).mpr (cv h).2.symm);exact⟨decide_eq_true<|by rw[b6.1];rfl,b6.2⟩
     .refine cB (by rw[decide_eq_false (by rw[Dt.int.injEq];calc(aq 0xd16f01fc01fbd631) e2)];rfl)<|cB rfl<|aU<|eX<|xB<|q _ _ tab hm (λ_ _=>rfl) J D ((ax 155442349043) hr) (λ_ h=>h) (λh=>by calc ek h) λσ _ h=>absurd ?_ e2;rw[(cv h).2,au]
    .exact cB (by rw[decide_eq_false (by rw[Dt.str.injEq];calc e1)];rfl)<|cB rfl<|aU<|eX<|xB<|q _ _ tab hm (λ_ _=>rfl) J D ((ax 155442349043) hr) (λ_ h=>h) (λh=>by calc ek h) λσ _ h=>absurd (cv h).1 e1
theorem Iw(q:Q (.d<|.bool (!l.isEmpty)) O):gF c k (jY .NotEq) (.d<|.lst l) (.d<|.lst []) O Q:= .mk λA B R s L N rm S I C=>by
 calc aE (be.mT S.up I) λa items g=>aN g λm D J=>?_;clear g;subst m;calc aE (be.mT S.up C) λb r g=>aN g λm p z=>?_;clear g;clear C;subst m;have z1:=J.length;have z2:=z.length;rw[cu] at z1 z2;have H:A.units<dP:=by have:=rm.u;exact(aq 494310527217) this
 cases l with
 |nil=>calc SeqAt.RcNeAt.lists (e:=λZ=>true) D p (by rw[z1,z2]) H (λj h1 Z=>by rw[z1] at h1;calc absurd h1 λh=>nomatch h) c.prog c.w EF _<|by rw[z1];calc⟨B,O,.d<|.bool false,Look.le_refl B,S,rfl,q⟩
 |cons x l=>calc SeqAt.RcNeAt.lists_lengths D p (by rw[z1,z2];rfl) H c.prog c.w EF _ ⟨B,O,.d<|.bool true,Look.le_refl B,S,rfl,q⟩
noncomputable abbrev Tb:=List<|Str×Nat
noncomputable abbrev NT:=List<|Nat×List Nd
noncomputable def mW(tb:Tb):Dt:= .aM (tb.map λe=> .str e.1)<|tb.map λe=> .int (e.2:Nat)
noncomputable def tB(nt:NT):Dt:= .aM (nt.map λe=> .int (e.1:Nat))<|nt.map λe=> .lst<|e.2.map Nd.dt
noncomputable def lK(tb:Tb)(x:Str):Option Nat:=(tb.find? λe=>decide<|e.1=x).map (·.2)
noncomputable def jq(nt:NT)(c:Nat):List Nd:=((nt.find? λe=>decide<|e.1=c).map (·.2)).getD []
mutual
noncomputable def fF(nt:NT):Tm->Nat->Tb->List Tb
 | .nd x l,c,tb=>if isQ x=true then(lK tb x).elim [tb++[(x,c)]] λd=>if d=c then[tb] else[]
  else(jq nt c).flatMap λn=>if n.op=x/\n.kids.length=l.length then eZ nt l n.kids [tb] else[]
noncomputable def eZ(nt:NT):List Tm->List Nat->List Tb->List Tb
 |[],_,so=>so
 |_::_,[],so=>so
 |t::g,k::ks,so=>eZ nt g ks<|so.flatMap<|fF nt t k
end
structure sV(nt:NT):Prop where
 nd:(nt.map (·.1)).Nodup
 len:∀e∈nt,e.2.length<=7
 op:∀e∈nt,∀n∈e.2,gp n.op=true/\n.kids.length<=2
 kids:∀e∈nt,∀n∈e.2,∀x∈n.kids,x∈nt.map (·.1)
theorem FK{nt:NT}(h:(nt.map (·.1)).Nodup){c:Nat}(hc:c∈nt.map (·.1)):(c,jq nt c)∈nt/\∀ks vs,tB nt= .aM ks vs->qa ks vs (.int (c:Nat))=some (.lst<|(jq nt c).map Nd.dt)/\Dt.int (c:Nat)∈ks:=by
 calc ai (bb.mp hc) λe g=>aw g λhe l=>?_;clear g;clear hc;subst l;have hf:∃m,nt.find? (λm=>decide<|m.1=e.1)=some m:=BK.mp<|O2.mpr ⟨e,he,decide_eq_true rfl⟩;calc ai hf λm hf=>?_;have h1:=tO hf;have p:=wF hf;have p:m.1=e.1:=of_decide_eq_true p;have q:jq nt e.1=m.2:=by unfold jq;rw[hf];rfl
 rw[q];calc⟨by rw[<-p];calc h1,λks vs hk=>?_⟩;calc aw (Dt.aM.inj hk) λg l=>?_;subst g;clear hk;subst l;calc ai (gk.mp h1) λj hj=>⟨Fy (j:=j) ?_ (by rw[dm,hj,<-p];rfl)<|by rw[dm,hj];rfl,bb.mpr ⟨m,h1,by rw[p]⟩⟩;have:(nt.map λe=>Dt.int (e.1:Nat))=(nt.map (·.1)).map λi=>Dt.int (i:Nat):=by rw[bg];rfl
 rw[this];calc h.map _ λa b r e=>r<|lc.mp e
theorem ZB(h:mW tb= .aM ks vs):qa ks vs (.str x)=(lK tb x).map λd=>Dt.int (d:Nat):=by
 calc aw (Dt.aM.inj h) λg j=>?_;subst g;subst j;unfold qa lK;induction tb with
 |nil=>rfl
 |cons e tb l=>
  rw[dK,dK,tQ,Cf,Cf];by_cases he:e.1=x
  .rw[decide_eq_true (by rw[he]),decide_eq_true he];rfl
  .rw[decide_eq_false (by rw[Dt.str.injEq];calc he),decide_eq_false he];calc l rfl
theorem Dp{x:Str}{c:Nat}{tb:Tb}(h:isQ x=true):fF nt (.nd x l) c tb=(lK tb x).elim [tb++[(x,c)]] λd=>if d=c then[tb] else[]:=if_pos h
theorem Dz{nt:NT}{x:Str}{l:List Tm}{c:Nat}{tb:Tb}(h:isQ x=false):fF nt (.nd x l) c tb=(jq nt c).flatMap λn=>if n.op=x/\n.kids.length=l.length then eZ nt l n.kids [tb] else[]:=if_neg<|h▸rK
theorem Fg{nt:NT}{x:Str}{l:List Tm}{c:Nat}{tb:Tb}{P:List Tb->Prop}(h1:isQ x=true->lK tb x=some c->P [tb])(h:P [])(j:isQ x=true->lK tb x=none->P [tb++[(x,c)]])(m:isQ x=false->P ((jq nt c).flatMap λn=>if n.op=x/\n.kids.length=l.length then eZ nt l n.kids [tb] else[])):P (fF nt (.nd x l) c tb):=by
 cases g:isQ x with
 |true=>
  rw[Dp g];cases hk:lK tb x with
  |none=>calc j g hk
  |some d=>
   rw[OG];by_cases hd:d=c
   .rw[if_pos hd];exact h1 g<|hd▸hk
   .rw[if_neg hd];calc h
 |false=>rw[Dz g];calc m g
theorem FX{nt:NT}{x:Str}{l:List Tm}{c:Nat}{tb b:Tb}(h:b∈(jq nt c).flatMap λn=>if n.op=x/\n.kids.length=l.length then eZ nt l n.kids [tb] else[]):∃n∈jq nt c,(n.op=x/\n.kids.length=l.length)/\b∈eZ nt l n.kids [tb]:=by
 calc ai (gI.mp h) λn q=>aw q λg hb=>?_;by_cases hc:n.op=x/\n.kids.length=l.length
 .rw[if_pos hc] at hb;exact⟨n,g,hc,hb⟩
 .rw[if_neg hc] at hb;calc cX hb
theorem RQ{α:Type}{c:Prop}[Decidable c]{a:List α}{m:Nat}(h:a.length<=m):(if c then a else[]).length<=m:=by
 split
 .exact h
 .exact cO _
theorem QJ(h:sV nt)(c:Nat):(jq nt c).length<=7:=by
 unfold jq;cases hf:nt.find? (λe=>decide<|e.1=c) with
 |none=>calc cO _
 |some e=>calc h.len e<|tO hf
theorem Jm(h:sV nt):(∀(t:Tm) (c:Nat) (tb:Tb),(fF nt t c tb).length<=7^t.rows.length/\∀b∈fF nt t c tb,b.length<=tb.length+t.rows.length)/\∀(l:List Tm) (ks:List Nat) (so:List Tb) (m:Nat),(∀b∈so,b.length<=m)->(eZ nt l ks so).length<=so.length*7^(Tm.bx l).length/\∀b∈eZ nt l ks so,b.length<=m+(Tm.bx l).length:=by
 refine Tm.ind (λx l p=>?_) (λks so m hm=>⟨fO (Nat.mul_one _).symm,hm⟩) λt j g r=>?_
 .intro c tb;have h1:1<=7^((Tm.bx l).length+1):=Nat.one_le_pow _ _<|ph 6;have k:=λn:Nd=>p n.kids [tb] tb.length<|fa (bS _) dF;calc Fg (P:=λL=>L.length<=7^((Tm.bx l).length+1)/\∀b∈L,b.length<=tb.length+((Tm.bx l).length+1)) (λZ Z=>⟨h1,fa (kI ..) dF⟩) ⟨cO _,dF⟩ (λZ Z=>⟨h1,fa (bA▸oY (iv<|cO _) _) dF⟩) λZ=>⟨?_,λb hb=>ai (FX hb) λn q=>nf<|(k n).2 b q.2.2⟩;rw[Pu,Hz];exact aL (jB (n:=7^(Tm.bx l).length) λn Z=>RQ<|aL (k n).1<|fO<|CA _)<|nc _<|QJ h c
 .intro ks so m hm
  cases ks with
  |nil=>calc⟨Nat.le_mul_of_pos_right _<|Nat.pow_pos<|ph 6,λb hb=>aL (hm b hb)<|kI ..⟩
  |cons k ks=>
   have z:=r ks (so.flatMap<|fF nt t k) (m+t.rows.length) λb hb=>ai (gI.mp hb) λC q=>aL ((g k C).2 b q.2)<|wx (hm C q.1) _;show(eZ nt j ks<|so.flatMap<|fF nt t k).length<=so.length*7^(t.rows++Tm.bx j).length/\∀b∈eZ nt j ks (so.flatMap<|fF nt t k),b.length<=m+(t.rows++Tm.bx j).length;rw[bA,HJ,<-Pl,<-sg];calc⟨aL z.1<|nc _<|jB λb Z=>(g k b).1,z.2⟩
theorem Iv(h:sV nt):∀(t:Tm) (c:Nat) (tb:Tb),(fF nt t c tb).length<=7^t.rows.length/\∀b∈fF nt t c tb,b.length<=tb.length+t.rows.length:=(Jm h).1
theorem Jx(h:sV nt):∀(l:List Tm) (ks:List Nat) (so:List Tb) (m:Nat),(∀b∈so,b.length<=m)->(eZ nt l ks so).length<=so.length*7^(Tm.bx l).length/\∀b∈eZ nt l ks so,b.length<=m+(Tm.bx l).length:=(Jm h).2
theorem A6(p:Nat×Tm)(d:List<|Nat×Tm):∀S,eZ nt ((d++[p]).map (·.2)) ((d++[p]).map (·.1)) S=(eZ nt (d.map (·.2)) (d.map (·.1)) S).flatMap (fF nt p.2 p.1):=by
 induction d with
 |nil=>calc λZ=>rfl
 |cons e d g=>calc λS=>g _
noncomputable def nH(tb:Tb):List (Dt×PV):=tb.map λe=>(.str e.1,.d<|.int (e.2:Nat))
theorem Lg(tb:Tb):zR (.aM<|nH tb) (mW tb):= .inr ⟨tb.map λe=>(.str e.1,.int (e.2:Nat)),by rw[bg];rfl,by rw[bg,bg];rfl⟩
theorem II(tb:Tb):((tb.map (·.1)).map Dt.str).zip ((tb.map λe=>Dt.int (e.2:Nat)).map PV.d)=nH tb:=by rw[bg,bg,List.zip_map'];rfl
theorem VG(q:(tb.map (·.1)).Nodup)(h:lK tb x=some d):dput (nH tb) (.str x) (aY d)=nH tb:=by
 calc ai (jX.mp h) λe g=>aw g λhe r=>?_;clear g;clear h;subst r;have h1:=tO he;have m:=wF he;have m:e.1=x:=of_decide_eq_true m;unfold dput;rw[if_pos (bb.mpr ⟨(.str e.1,.d<|.int (e.2:Nat)),bb.mpr ⟨e,h1,rfl⟩,by rw[m]⟩)];rw[bg];calc gZ λp z=>?_;show(if Dt.str p.1=Dt.str x then(Dt.str p.1,aY e.2) else(Dt.str p.1,PV.d<|.int (p.2:Nat)))=_;split
 .rename_i I
  calc ai (gk.mp z) λi hi=>ai (gk.mp h1) λj hj=>ai (dJ.mp hi) λC D=>?_;calc ai (dJ.mp hj) λH l=>?_;have:i=j:=by calc(tW (h₀:=by simpa using C) (h₁:=by simpa using H) q).mp ?_;rw[nY,nY,D,l,(Dt.str.inj I),m]
  clear l;subst this;rw[hi] at hj;rw[gn hj];rfl
 .rfl
theorem Je(h:lK tb x=none):dput (nH tb) (.str x) (aY d)=nH (tb++[(x,d)])/\x∉tb.map (·.1):=by
 have m:x∉tb.map (·.1):=λhm=>by calc ai (bb.mp hm) λe g=>aw g λhe e1=>?_;unfold lK at h;rw[Option.map_eq_none_iff,GP] at h;exact h e he<|decide_eq_true e1
 calc⟨?_,m⟩;unfold dput;rw[if_neg λhm=>m ?_] at|-
 .unfold nH;rw[cb];rfl
 .refine ai (bb.mp hm) λe g=>aw g λhe e1=>ai (bb.mp he) λp g=>aw g λj l=>?_;clear g;clear g he;subst l;calc bb.mpr ⟨p,j,Dt.str.inj e1⟩
theorem Ml:(∀(t:Tm) (c:Nat) (tb:Tb),(tb.map (·.1)).Nodup->∀b∈fF nt t c tb,(b.map (·.1)).Nodup)/\∀(l:List Tm) (ks:List Nat) (so:List Tb),(∀b∈so,(b.map (·.1)).Nodup)->∀b∈eZ nt l ks so,(b.map (·.1)).Nodup:=by
 refine Tm.ind (λx l g c tb h=>Fg (P:=λL=>∀b∈L,(b.map (·.1)).Nodup) (λZ Z=>fa h dF) dF (λZ r=>fa ?_ dF) λZ b hb=>ai (FX hb) λn q=>g n.kids [tb] (fa h dF) b q.2.2) (λZ Z h=>h) λt z j m ks so h=>?_
 .rw[cb];exact kg h (Je (d:=c) r).2
 .cases ks with
  |nil=>calc h
  |cons k ks=>calc m ks _ λb hb=>ai (gI.mp hb) λp q=>j k p (h p q.1) b q.2
theorem WK:∀(t:Tm) (c:Nat) (tb:Tb),(tb.map (·.1)).Nodup->∀b∈fF nt t c tb,(b.map (·.1)).Nodup:=(Ml).1
theorem SF:∀(l:List Tm) (ks:List Nat) (so:List Tb),(∀b∈so,(b.map (·.1)).Nodup)->∀b∈eZ nt l ks so,(b.map (·.1)).Nodup:=(Ml).2
noncomputable def LN(e:Nat×Tm):Dt:= .tup [.int (e.1:Nat),e.2.dt]
theorem QF:∀(a:List Nat) (b:List Tm),mX (a.map λi=> .int (i:Nat)) (b.map Tm.dt)=((a.zip b).map LN).map PV.d:=by
 intro g;induction g with
 |nil=>
  intro b;cases b<;>rfl
 |cons x a j=>
  intro h;cases h with
  |nil=>
   calc rfl
  |cons y b=>
   exact congrArg (_::·)<|j b
theorem Ms(G:Glob c (ak "_law_places")<|aK 26)(b3:eO c "len")(Z:fJ c "zip")(I:fJ c "dict")(m:sV nt):∀(n:Nat) (P:Tm) {k:Nat} {f:Addr} {J:Nat} {tb:Tb} {O:al} {Q:PV->al->Prop},Fn c f (aK 26)->P.dZ<=n->fc P->P.rows.length<=4->J∈nt.map (·.1)->tb.length+P.rows.length<=20->(tb.map (·.1)).Nodup->Q (.d<|.lst<|(fF nt P J tb).map mW) O->aW c (k+n+1) (.ref f) [.d (tB nt),.d P.dt,aY J,.d (mW tb)] O Q:=by
 intro c2;induction c2 with
 |zero=>
  intro c3;cases c3 with
  |nd x l=>
   intro k f J tb O Q F hn hP S hc hz a2 q;calc absurd hn<|gm _
 |succ n ih=>
  intro c4;cases c4 with
  |nd x l=>
   intro k f J tb O Q F hn hP S hc hz a2 q;rw[Tm.vQ] at hn;have U:(Tm.nd x l).rows.length=(Tm.bx l).length+1:=by rw[Tm.jJ,bP]
   have hs:gT x:=hP.1.str;have c5:l.length<=5:=hP.1.kids;calc ai (Ij hs) λch C=>aN C λc6 c7 b4=>?_;have c8:(Tm.nd x l).dt= .tup (.str x::l.map Tm.dt):=(Tm.nd x l).jv;have a3:Key (Dt.str x):=⟨hs.1,qe⟩;calc cY F rfl λV b5=>?_;rw[c8];lk;calc eY (eT) (eV) rfl ?_;lk;calc Ee (eT) (eV) c6 ?_;lk;calc fe (ie c7) (ie<|by decide+kernel) ⟨_,rfl,?_⟩;rw[b4];by_cases hq:isQ x=true
   .rw[Dp hq] at q
    calc cB hq<|aU<|pU<|lP (by rfl) ?_;tm_at"m";lk;calc XM I8 PySem.F.type_dict_get ?_;lk;calc eY (eT) (eV) rfl ?_;lk;calc XJ a3 ?_ (by rw[au,au]);rw[ZB (tb:=tb) rfl];cases X:lK tb x with
    |some d=>
     rw[X,OG] at q;dsimp only[wE];lk;calc kU et et ⟨_,rfl,?_⟩;by_cases hd:d=J
     .rw[if_pos hd] at q
      calc cy (by rw[hd,decide_eq_true rfl];rfl)<|cE<|aU<|cz<|Lf I (by tm_at"k") (by decide) (by rfl) (by rfl) ?_;lk;have a5:mW tb= .aM ((tb.map (·.1)).map Dt.str) (tb.map λe=>Dt.int (e.2:Nat)):=by rw[bg];rfl
      rw[a5];calc JW (by rw[au,au]) (by rw[au];calc(ax 0x205f1202f3226f431603f3) S hz U) λa ha=>?_;rw[II];tm_at"1";calc aU<|cz ?_;lk;calc eY (eT) (eV) rfl<|pN bo a3 (by rw[au];calc(ax 0x205f1202f3226f431603f3) S hz U) ?_;rw[yh,show dput (nH tb) (.str x) (aY J)=nH tb from VG a2 (hd▸X)];calc ES (x:=ak "made") (by rfl) bo (Lg _) ?_;rw[yk ha];calc aU<|eX<|iG ?_;lk;exact⟨lb rfl,[_],rfl,q⟩
     .rw[if_neg hd] at q;calc cB (by rw[decide_eq_false (by rw[lc];calc hd)];rfl)<|aU<|eX<|iG ?_;lk;calc⟨lb rfl,[],rfl,q⟩
    |none=>
     rw[X,Option.elim_none] at q;dsimp only[Ha];lk;calc kU et et ⟨_,rfl,cy (by rw[decide_eq_true rfl];rfl)<|cE<|aU<|cz<|Lf I (by tm_at"k") (by decide) (by rfl) (by rfl) ?_⟩;lk;have a5:mW tb= .aM ((tb.map (·.1)).map Dt.str) (tb.map λe=>Dt.int (e.2:Nat)):=by rw[bg];rfl
     rw[a5];calc JW (by rw[au,au]) (by rw[au];calc(ax 0x205f1202f3226f431603f3) S hz U) λa ha=>?_;rw[II];tm_at"1";calc aU<|cz ?_;lk;calc eY (eT) (eV) rfl<|pN bo a3 (by rw[au];calc(ax 0x205f1202f3226f431603f3) S hz U) ?_;rw[yh,show dput (nH tb) (.str x) (aY J)=nH (tb++[(x,J)]) from(Je X).1];calc ES (x:=ak "made") (by rfl) bo (Lg _) ?_;rw[yk ha];calc aU<|eX<|iG ?_;lk;exact⟨lb rfl,[_],rfl,q⟩
   .rw[Dz (qr.mpr hq)] at q;calc cy (by simpa using hq)<|aw (FK m.nd hc) λa6 b6=>aw (b6 _ _ rfl) λc9 d0=>?_;have h7:(jq nt J).length<=7:=m.len _ a6;have H:∀j,j<=4->7^j<=2401:=λj hj=>aL (BQ ((dL 461310)) hj) (by decide);calc cE<|aU<|cz<|iG ?_;lk;calc⟨lb rfl,[],rfl,?_⟩;lk;calc gD (λ_=>rfl)<|eJ<|jA (λ_ _=>by rfl) ?_;lk;refine TL rb qP d0 c9 ?_
    have a0:∀bF:Nd,(if bF.op=x/\bF.kids.length=l.length then eZ nt l bF.kids [tb] else[]).length<=2401:=λbF=>by
     split
     .have:=(Jx m l bF.kids [tb] tb.length λb hb=>by rw[ci.mp hb];calc bS _).1;rw[gG,CA] at this;have:=H (Tm.bx l).length<|(aq 566184603760307) S U;exact(aq 626657791719923) (by assumption) this
     .exact cO _
    refine⟨_,rfl,xq (g:=λn:Nd=>PV.d n.dt) [ak "node",ak "found",ak "some",ak "kid",ak "part"] (λdone a7=>a7 (ak "found")=some (.d<|.lst<|(done.flatMap λbF=>if bF.op=x/\bF.kids.length=l.length then eZ nt l bF.kids [tb] else[]).map mW)) (bg ..) rfl ?_ ?_⟩
    .intro done bF e5 a7 Q1 hd r4 ag a8;have r2:=ag.tr (x:=ak "pattern") rfl rfl;have b7:bF∈jq nt J:=mid hd
     ·
      have Y:=m.op _ a6 bF b7;have d1:=m.kids _ a6 bF b7;have d3:=jB (l:=done) (g:=λbF=>if bF.op=x/\bF.kids.length=l.length then eZ nt l bF.kids [tb] else[]) (n:=2401) λbF _=>a0 bF;tm_at"1";calc aU<|pU<|rF<|rP<|lP (by rfl)<|jA (λ_ _=>by rfl) ?_;lk;calc eY (eT) (eV) rfl<|jA (λ_ _=>by rfl)<|bJ r2 ?_;lk;calc eY (eT) (eV) rfl<|fe (ie Y.1) (ie hs.1) ⟨_,rfl,?_⟩;have skip:¬(bF.op=x/\bF.kids.length=l.length)->(done++[bF]).flatMap (λbF=>if bF.op=x/\bF.kids.length=l.length then eZ nt l bF.kids [tb] else[])=done.flatMap λbF=>if bF.op=x/\bF.kids.length=l.length then eZ nt l bF.kids [tb] else[]:=λh=>by rw[wy,tT,if_neg h];simp
      by_cases e1:bF.op=x
      .refine cB (decide_eq_true<|by rw[e1])<|rP<|lP (by rfl) ?_;lk;calc kZ (by rw[bP,au];calc(aB 139044455665) Y.2)<|rJ b3 (by tm_at"k") (by decide) (by rfl) (by rfl)<|ba<|bJ r2 ?_;lk;calc kZ (by rw[bP,au];calc nT c5)<|fe et et ⟨_,rfl,?_⟩;rw[bP,bP,au,au];by_cases e2:bF.kids.length=l.length
       .refine cB (decide_eq_true<|by rw[e2])<|rH<|cB rfl<|aU<|cz<|iG<|ba<|bJ (ag.tr rfl rfl) ?_;lk;calc⟨lb rfl,[_],rfl,?_⟩;tm_at"1";calc aU<|gD (λ_=>rfl)<|mV (by rfl) (by rfl)<|gO (by tm_at"k") (by decide) Z.1 Z.2 ⟨_,rfl,.ty,?_⟩;lk;calc il (lb rfl) (by rw[bP,au];calc(aB 139044455665) Y.2)<|ba<|Ap<|bJ r2<|il (lb rfl) (by rw[bP,au];calc(aq 569526090413587) Y.2 e2)<|iT ?_;rw[uf,uf,uc,uc];calc Nr (by rw[au,au,e2]) ?_;rw[QF];refine xq (g:=λp=>PV.d<|LN p) [ak "some",ak "kid",ak "part"] (λD L=>L (ak "some")=some (.d (.lst ((eZ nt (D.map (·.2)) (D.map (·.1)) [tb]).map mW)))) (bg ..) rfl ?_ ?_
        .intro D p t2 L Q2 b8 r5 N d4;have a9:=Jx m (D.map (·.2)) (D.map (·.1)) [tb] tb.length (λb hb=>by rw[ci.mp hb];calc bS _);have b0:=a9.1;rw[gG,CA] at b0;have b9:∀b∈eZ nt (D.map (·.2)) (D.map (·.1)) [tb],b.length<=tb.length+(Tm.bx (D.map (·.2))).length/\(b.map (·.1)).Nodup:=λb hb=>⟨a9.2 b hb,SF _ _ [tb] (λb hb=>by rw[ci.mp hb];calc a2) b hb⟩;have c0:=A6 (nt:=nt) p D [tb];clear a9;generalize eZ nt (D.map (·.2)) (D.map (·.1)) [tb]=so at r5 b0 b9 c0
         ·
          have d5:p∈bF.kids.zip l:=mid b8;have b1:=Ce (a:=p.1) (b:=p.2) d5;have d6:(bF.kids.zip l).map (·.2)=l:=by rw[<-Hq,Ck e2]
          have r:(Tm.bx l).length=(Tm.bx (D.map (·.2))).length+(p.2.rows.length+(Tm.bx (t2.map (·.2))).length):=by rw[<-d6,b8,cb,dK,Tm.oN,bA,Tm.iP,bA]
          have b2:=H (Tm.bx (D.map (·.2))).length (by calc(cK 0x202f1202f3603f364400fa15) S U r);have d7:=H p.2.rows.length<|(cK 0x202f1202f3603f364400f1a5) S U r;have e6:∀b,(fF nt p.2 p.1 b).length<=2401:=λb=>by have:=(Iv m p.2 p.1 b).1;exact(aq 626657800958513) d7 this
          show cW _ _ _ _ _ (.d<|.tup [.int (p.1:Nat),p.2.dt]) _ _;tm_at"2";calc aU<|xH ((xM b5).trans rfl) (b5▸rfl) (λ_=>rfl)<|eJ<|bJ r5<|⟨_,rfl,?_⟩;have d8:(so.flatMap<|fF nt p.2 p.1).length<=7^(Tm.bx (D.map (·.2))).length*7^p.2.rows.length:=aL (jB (n:=7^p.2.rows.length) λb _=>(Iv m p.2 p.1 b).1)<|nc _ b0;have a1:=H ((Tm.bx (D.map (·.2))).length+p.2.rows.length)<|(cK 0x202f431202f560df564400f31a) S U r;rw[HJ] at a1;refine EE (g:=λb=>PV.d<|mW b) (by rfl) (by rfl) (λ_ _=>rfl) (fF nt p.2 p.1) (λb=>PV.d<|mW b) (λ_=>mW) (λah=>ah=O) (bg ..) (by rw[<-OP,au];calc aL d8<|aL a1<|by decide) rfl ?_ ?_
          .intro cenv e7 b d9 e8 T e0 C;subst C
           ·
            have c1:=b9 b e0;calc jL ⟨T.aZ (by rfl) _,eJ<|eh G λ_ _=>ba<|cf (by unfold aZ;rw[if_neg (by decide),T _ (by rfl)];calc N.tr rfl<|ag.tr rfl rfl)<|ba<|cf (by unfold aZ;rw[if_neg (by decide),T _ (by rfl)];rfl)<|ba<|cf (by unfold aZ;rw[if_neg (by decide),T _ (by rfl)];rfl) ?_⟩;lk;calc ih p.2 ‹_› (by have:=Tm.qX b1.2;calc sy hn this) (hP.kt b1.2) ((cK 0x202f1202f3603f364400f1a5) S U r) (d1 p.1 b1.1) ((oo 0x226f431226f4a562bfa64413f307f00f2407f51) hz U r c1.1) c1.2<|⟨_,rfl,bg ..,rfl,λu hu e9 f0 e4 C=>?_⟩;subst C;calc jL ⟨λz hz=>?_,bJ (by rfl) ⟨rfl,rfl⟩⟩;have:z≠ak "late":=λe=>hz (by rw[e];calc dC);unfold aZ;rw[if_neg this];exact e4 z hz
          .intro d9 C;subst C;tm_at"1";calc cE<|d4 _ ?_<|((N.set rfl).set rfl).set rfl;rw[c0,<-OP];rfl
        .intro L r5 N;rw[show(bF.kids.zip l).map (·.2)=l by rw[<-Hq,Ck e2],show(bF.kids.zip l).map (·.1)=bF.kids by rw[<-List.unzip_fst,Ck e2]] at r5;have b2:=a0 bF;rw[if_pos ⟨e1,e2⟩] at b2;calc aU<|cz<|iD<|bJ (N.tr rfl r4)<|bJ r5<|Ay (by unfold small;rw[au,au];calc aL (pe (aL d3<|nc 2401<|aL (ja<|nS hd) h7) b2)<|by decide) ?_;tm_at"1";calc cE<|cE<|a8 _ ?_<|(N.up rfl<|(ag.set rfl).set rfl).set rfl;show some _=some _;rw[<-cb,wy,tT,if_pos ⟨e1,e2⟩];simp
       .refine cy (decide_eq_false<|by rw[Dt.int.injEq];calc(aq 0xd16f01fc01fbd631) e2)<|cy rfl<|cE<|cE<|a8 _ ?_<|ag.set rfl;rw[skip λh=>e2 h.2];exact r4
      .refine cy (decide_eq_false<|by rw[Dt.str.injEq];calc e1)<|cy rfl<|cE<|cE<|a8 _ ?_<|ag.set rfl;rw[skip λh=>e1 h.1];exact r4
    .intro a7 r4 ag;lk;tm_at"A";calc q
end
section
variable{c:Cx}{k:Nat}{V:Env}{O ah:al}{ρ:az}{CH CB CU CC:Addr}{a:cg}{s:Hp}{e:Nat}
theorem Yj(cells:List Int)(n:Nat)(hm:0<m):0<=vn cells n m/\vn cells n m<m:=by
 unfold vn;split
 .exact⟨K7 _ hm,O4 _ hm⟩
 .exact⟨K7 _ hm,O4 _ hm⟩
structure Lw(CH CB CU:Addr)(a:cg)(s:Hp)(t nl:Addr)(cells:List Int)(n:Nat)(ns:List Nat)(O:al):Prop where
 hp:bN CH CB CU a O s
 tp:O t=some (.aM<|gg cells n)
 nm:O nl=some (.lst<|ns.map aY)
 nt:t∉a.own s
 nn:nl∉a.own s
 ne:t≠nl
 all:∀i∈ns,i<s.nodes.length
variable{t nl:Addr}{cells:List Int}{n:Nat}{ns:List Nat}
theorem Lw.heap(X:Lw CH CB CU a s t nl cells n ns O)(Y:bN CH CB CU a ah s')(f:Fr O ah (a.own s)<|a.own s')(g:s.nodes.length<=s'.nodes.length):Lw CH CB CU a s' t nl cells n ns ah where
 hp:=Y
 tp:=(f.1 t X.nt<|by rw[X.tp];simp).trans X.tp
 nm:=(f.1 nl X.nn<|by rw[X.nm];simp).trans X.nm
 nt:=λh=>(f.2 t h).elim X.nt λh=>by rw[X.tp] at h;exact cU h
 nn:=λh=>(f.2 nl h).elim X.nn λh=>by rw[X.nm] at h;exact cU h
 ne:=X.ne
 all:=λi hi=>fL (X.all i hi) g
theorem Lw.WG(X:Lw CH CB CU a s t nl cells n ns O):Lw CH CB CU a s t nl cells (n+1) ns (upd O t<|.aM<|gg cells ((n+1:Nat):Int)) where
 hp:=X.hp.same λb hb=>aC λe:b=t=>X.nt<|e▸hb
 tp:=bo
 nm:=(aC<|cI X.ne).trans X.nm
 nt:=X.nt
 nn:=X.nn
 ne:=X.ne
 all:=X.all
theorem Lw.num(X:Lw CH CB CU a s t nl cells n ns O)(hi:i<s.nodes.length):Lw CH CB CU a s t nl cells n (ns++[i]) (upd O nl<|.lst<|(ns++[i]).map aY) where
 hp:=X.hp.same λb hb=>aC λe:b=nl=>X.nn<|e▸hb
 tp:=(aC X.ne).trans X.tp
 nm:=bo
 nt:=X.nt
 nn:=X.nn
 ne:=X.ne
 all:=λj hj=>(ca.mp hj).elim (X.all j) λh=>by rw[ci.mp h];calc hi
theorem pK(p:Glob c (ak "_law_figure")<|aK 22)(g:eO c "len")(hc:cells.length<=1000)(F:Fn c f<|aK 22)(X:Lw CH CB CU a s t nl cells n ns O)(l:n<=1000)(hm:0<m)(q:∀(i:Nat) ah,(i:Int)<m->Lw CH CB CU a s t nl cells (n+1) ns ah->Q (aY i) ah):aW c (k+1) (.ref f) [.ref t,.d (.int m)] O Q:=by have h:=(Yj cells n hm);have j:=h.2;calc ai (J7 h.1) λi hi=>C0 g F X.tp hc l (Int.ne_of_gt hm) ?_;rw[hi] at j|-;calc q i _ j X.WG
theorem xv(h:i<ns.length):(ns.map aY)[((i:Int)).toNat]? =some (aY ns[i]):=by rw[hH,dm,cR h];rfl
theorem WP(W:Wd c CH CB CU)(N:fJ c "range")(GF:Glob c (ak "_law_figure")<|aK 22)(gH:c.mg (ak "Heap")=some (.ref CH))(gB:c.mg (ak "Bank")=some (.ref CB))(gU:c.mg (ak "Unions")=some (.ref CU))(hI:iY c CH (ak "__init__") fI)(FI:Fn c fI<|bj (aK 20) 0)(hB:iY c CB (ak "__init__") fB)(FB:Fn c fB<|bj (aK 11) 0)(hU:iY c CU (ak "__init__") fU)(FU:Fn c fU<|bj (aK 18) 0)(F:Fn c f<|aK 23)(ht:O t=some (.aM<|gg cells 0))(hc:cells.length<=1000)(q:∀ah a s nl n ns e,Lw CH CB CU a s t nl cells n ns ah->Good e s->mI s->1<=ns.length->ns.length<=7->n<=100->Q (.tp [.ref a.h,.ref nl]) ah):aW c (k+10) (.ref f) [.ref t] O Q:=by
 have I:=W.len;have e7:=W.tup;calc cY F rfl λV a6=>aU<|cz<|Aa gH W.H.cls (by tm_at"k") (by decide) (by rfl) (by rfl) ?_;lk;calc aW.up (k:=4) (TO (k:=0) W gB gU hI FI hB FB hU FU λa d2 X1 f1=>?_)<|(aB 9710800943);have c0:t∉a.own Bq:=λh=>(f1.2 t h).elim (λh=>by calc cX h) λh=>by rw[ht] at h;exact cU h
 have b2:d2 t=some (.aM<|gg cells 0):=(f1.1 t (wB)<|by rw[ht];simp).trans ht;tm_at"1";calc aU<|cz<|iV<|ba ?_;tm_at"m";lk;calc eF X1.at_ W.H.cls W.yr (by decide+kernel) λg hg=>ba<|cT ?_;lk;calc⟨lb rfl,.inl ⟨[_],rfl,?_⟩⟩;lk;calc aW.up (k:=6) (KI (k:=0) W hg X1 good0 (vM) (by decide) (.inl ⟨.inl rfl,rfl⟩) λs2 d3 n2 X2 G2 d4 e9 a7 d5 f2=>?_)<|(aB 9710801359);have b3:d3 t=some (.aM<|gg cells 0):=(f2.1 t c0<|by rw[b2];simp).trans b2;have b0:t∉a.own s2:=λh=>(f2.2 t h).elim c0 λh=>by rw[b2] at h;exact cU h
 have a7:s2.nodes.length<=0+1:=a7;calc ba ?_;tm_at"m";lk;calc eF X2.at_ W.H.cls W.yr (by decide+kernel) λg hg=>ba<|cT ?_;lk;calc⟨lb rfl,.inl ⟨[_],rfl,?_⟩⟩;lk;calc aW.up (k:=6) (KI (k:=0) W hg X2 G2 (vM) ((aB 145208002785) a7) (.inl ⟨.inr rfl,rfl⟩) λs3 b4 n3 X3 G3 d6 d7 c1 c2 f3=>?_)<|(aB 9710801359);have a2:b4 t=some (.aM<|gg cells 0):=(f3.1 t b0<|by rw[b3];simp).trans b3;have c3:t∉a.own s3:=λh=>(f3.2 t h).elim b0 λh=>by rw[b3] at h;exact cU h
 lk;refine⟨lb rfl,λnl a8=>?_⟩
 have b5:∀i∈[n2,n3],i<s3.nodes.length:=λi hi=>by
  rcases dD.mp hi with rfl|hi
  .exact(ax 0x731235203f3751) d7 c1 d4
  .rw[ci.mp hi];exact d6
 have L3:Lw CH CB CU a s3 t nl cells 0 [n2,n3] (upd b4 nl<|.lst<|[n2,n3].map aY):={hp:=X3.same λb hb=>aC λe:b=nl=>X3.fresh a8<|e▸hb,tp:=(aC λe:t=nl=>by rw[e,a8] at a2;calc bp a2).trans a2,nm:=bo,nt:=c3,nn:=X3.fresh a8,ne:=λe=>(by rw[e,a8] at a2;calc bp a2),all:=b5};rw[show(MO.lst [aY n2,aY n3])= .lst ([n2,n3].map aY) from rfl];generalize upd b4 nl (.lst<|[n2,n3].map aY)=f0 at L3|-;tm_at"1";calc aU<|gD (λ_=>rfl)<|mV (by rfl) (by rfl)<|gO (by tm_at"k") (by decide) N.1 N.2 ⟨_,rfl,.ty,ba<|iD ?_⟩;lk;calc eh GF λ_ _=>?_;lk;calc aW.up (k:=1) (pK (k:=0) GF I hc ‹_› L3 (vM) ((dL 2401104175)) λi0 f4 a0 L5=>?_)<|uR;lk;calc xj ((aB 0xaf0ef17f1ef01f11df0ef1ef01f11df25f17f08f1df01f1) a0) ?_;rw[show((3:Int)+(i0:Int)).toNat=3+i0 from rfl]
 have key:∀(j:Int) (m:Nat),(iota j m).length=m:=by
  intro j m;induction m generalizing j with
  |zero=>rfl
  |succ m ih=>exact congrArg (·+1)<|ih _
 refine DH (n:=3+i0) [ak "lap",ak "op",ak "kids"] (λj ah=>∃s n ns,Lw CH CB CU a s t nl cells n ns ah/\Good 0 s/\mI s/\s.nodes.length<=2+j/\2<=ns.length/\ns.length<=2+j/\n<=1+4*j) rfl (jQ s3 1 [n2,n3]<|zU L5 G3 ⟨c2 _<|.inl<|d5 _<|.inr rfl,c2 _<|.inr rfl⟩ ((aq 0x24e04f1248e32c1) a7 c1) (bS 2) (bS 2)<|bS 1) ?_ ?_
 .intro j ah b6 Q1 hj l ag d8;calc gz l λs n ns C=>qY C λL G T c4 D Z P=>ai (Fs hj) λcnt a1=>?_;have hN:s.nodes.length+(cnt+1)<=7:=(aV 0x209f403f124304f164a0cf403f308f1df01fa) c4 a1 a0;have r:ns.length+(cnt+1)<=7:=(aV 0x209f403f124304f164a0cf403f308f1df01fa) Z a1 a0;have hn:n+4*(cnt+1)<=30:=(aV 0x22af418f03f12418f38164a0cf403f308f1df01fa) P a1 a0;have r1:=ag.tr (x:=ak "tape") rfl rfl;have r3:=ag.tr (x:=ak "numbers") rfl rfl;tm_at"1";calc aU<|cz<|jA (λ_ _=>by rfl)<|cT ?_;lk;calc⟨lb rfl,.inl ⟨[_,_,_],rfl,?_⟩⟩;calc eh GF λ_ _=>?_;calc ba<|cf r1 ?_;lk;refine aW.up (k:=1) (pK (k:=0) GF I hc ‹_› L ((ax 0x206f1209f403f322af418f03f1) hN hn) ((dL 2401104175)) λi1 c5 S L6=>?_)<|uR
  obtain⟨x,K,hx,c6,c7⟩:∃(x:Str) (K:Nat),([Dt.str (ak "f"),.str<|ak "p",.str (ak "p")])[((i1:Int)).toNat]? =some (.str x)/\(x=ak "f"/\K=1\/x=ak "p"/\K=2)/\pD x K:=by
   have:i1=0\/i1=1\/i1=2:=(aB 0x1bf1bf604f16816e108f1df01f1) S;rcases this with rfl|rfl|rfl
   .exact bv _ 1<|aR rfl (.inl ⟨rfl,rfl⟩)<|.inr<|.inl ⟨rfl,rfl⟩
   .exact bv _ 2<|aR rfl (.inr ⟨rfl,rfl⟩)<|.inr<|.inr ⟨rfl,rfl⟩
   .exact bv _ 2<|aR rfl (.inr ⟨rfl,rfl⟩)<|.inr<|.inr ⟨rfl,rfl⟩
  have hK:K<=2:=c6.elim (λh=>h.2▸oa 1) λh=>fO h.2;calc eY ((aB 0xef01f112f08f1df01f1) S) ((aB 0x8f20f01f108f1df01f1) S) hx ?_;tm_at"1";refine aU<|xH ((xM a6).trans rfl) (a6▸rfl) (λ_=>rfl)<|mV (by rfl) (by rfl)<|gO (by tm_at"k") (by decide) N.1 N.2 ⟨_,rfl,.ty,ba<|WE.mono (Q:=λp ah=>p=aY K/\ah=c5) (Dy ?_) ?_⟩
  .lk;calc fe (ie c7.ok.1.facts.1) (ie<|by decide+kernel) ⟨_,rfl,?_⟩;rcases c6 with⟨rfl,rfl⟩|⟨rfl,rfl⟩
   .refine cB (decide_eq_true rfl)<|xF ⟨rfl,rfl⟩
   .refine cy (decide_eq_false<|by rw[Dt.str.injEq];decide+kernel)<|xF ⟨rfl,rfl⟩
  intro p f5 l;have C:=l.1;have a3:=l.2;clear l;subst C;subst a3;calc iT<|xj ((aB 0xaf0ef17f01f10ef01f125f17f204f1) hK) ?_;rw[show((K:Int)).toNat=K from rfl];refine kG.mono (Jf (by rfl) (λxs b7 ah=>∃(n':Nat) (ks:List Nat),xs.length+ks.length=K/\(∀z∈xs,∃i:Int,z= .d (.int i))/\b7=ks.map (λi=>Dt.int (i:Nat))/\Lw CH CB CU a s t nl cells n' ns ah/\(∀j∈ks,j<s.nodes.length)/\n'+xs.length<=n+1+K) ⟨n+1,[],by rw[au,key];simp,λz hz=>by calc ai (bb.mp hz) λi l=>aw l λ_ C=>?_;clear l;clear hz;subst C;calc⟨i,rfl⟩,rfl,L6,λ_ h=>(cX h),by rw[au,key];calc(aq 37991483)⟩ ?_) ?_
  .intro cenv e8 y ys b7 ah f6 TT l;calc aE l λn' ks C=>gS C λU b8 a3 L' b9 J=>?_;clear C l;subst a3;rw[bP] at U J;calc ai (b8 y dC) λiy l=>?_;subst l;calc⟨by rw[au];calc(ax 0x205f1204f3634103f) hK U,jL ⟨TT.aZ (by rfl) _,vR<|cB rfl<|jA (λ_ _=>by rfl)<|cf (by unfold aZ;rw[if_neg (by decide),TT _ (by rfl)];calc r3)<|eh GF λ_ _=>ba<|cf (by unfold aZ;rw[if_neg (by decide),TT _ (by rfl)];calc r1)<|ba<|rJ I (by tm_at"k") (by decide) (by rfl) (by rfl)<|ba<|cf (by unfold aZ;rw[if_neg (by decide),TT _ (by rfl)];calc r3) ?_⟩⟩;lk;calc jm L'.nm (by rw[au];calc(ax 0x205f1209f403f3209f403f1) hN r) ?_;rw[au];lk;calc aW.up (k:=1) (pK (k:=0) GF I hc ‹_› L' ((dB [_,_,_,_,_,_,_] 0x206f1209f403f322af418f03fa204f00f600f413f4807f2400f0df44807f1) hN hn hK U J) (m:=(ns.length:Nat)) ((aB 0x8f01f112f2104f) D) λi2 c8 a5 L8=>?_)<|uR;have X:i2<ns.length:=xp a5;refine li L8.nm (mf) ((aV 0x8f20f01f1209f403f3209f403fa08f01fa01f1) hN r a5) (xv X) ⟨.int (ns[i2]:Nat),rfl,n'+1,ks++[ns[i2]],?_,λz hz=>b8 z<|dw _ hz,by simp,L8,λj hj=>?_,(cK 0x24a03f43b6a400fc24a03f4c1) U J⟩
   .rw[bA,gG];exact(ax 435068228667) U
   .rcases ca.mp hj with h|h
    .exact b9 j h
    .rw[ci.mp h];exact L'.all _<|gJ X
  .intro b7 c8 l;calc aE l λn' ks C=>gS C λU b8 a3 L8 b9 J=>?_;clear C l;subst a3
   have c9:ks.length=K:=by simpa using U
   simp only[Hl] at J;tm_at"1";calc aU<|eG ?_;tm_at"m";calc cf r3<|ij L8.nm lR mY<|ba ?_;tm_at"m";calc bJ (ag.tr (x:=ak "heap") rfl rfl)<|eF L8.hp.at_ W.H.cls W.tz (by decide+kernel) λg hg=>?_;lk;calc pX (by rw[au];calc(ax 0x205f1204f363415631) hK U c9) ?_;lk;calc aW.up (k:=5) (Lb (k:=0) W hg (nd:=⟨x,ks⟩) L8.hp G (vM) ((aq 37173244589249) hN) (by show pD x ks.length;rw[c9];calc c7) b9 λs9 d9 n9 X9 G9 e0 e4 e5 d0 f9=>?_)<|(aB 9710801087);have L9:=L8.heap X9 f9 e4;calc iT<|lF L9.nm (by rw[au];calc(ax 0x205f1209f403f3209f403f1) hN r) ?_;rw[show ns.map aY++[aY n9]=(ns++[n9]).map aY by rw[cb];rfl];refine cE<|d8 _ _ (jQ s9 n' (ns++[n9])<|zU (L9.num e0) G9 ⟨d0 _<|.inl T.1,d0 _<|.inl T.2⟩ ((ax 0x2403f04f12c124504f3) e5 c4) (by rw[bA];calc K0 D) (by rw[bA];calc iv Z)<|(aV 0x2418f0df81245c4e1204f52418fa83) J hK P)<|((ag.set rfl).set rfl).set rfl
 .intro ah b6 l ag;calc gz l λs n ns C=>qY C λL G T hN D Z P=>?_;have r:ns.length+0<=7:=(aq 0x209f4e124430cf04f108f1df01f3) Z a0;have hn:n+4*0<=30:=(aq 0x22af418fe12418f430cf8108f1df01f3) P a0;have r1:=ag.tr (x:=ak "tape") rfl rfl;have r2:=ag.tr (x:=ak "heap") rfl rfl;have r3:=ag.tr (x:=ak "numbers") rfl rfl;calc aU<|gD (λ_=>rfl)<|mV (by rfl) (by rfl)<|gO (by tm_at"k") (by decide) N.1 N.2 ⟨_,rfl,.ty,ba ?_⟩;calc eh GF λ_ _=>?_;calc ba<|cf r1 ?_;lk;calc aW.up (k:=1) (pK (k:=0) GF I hc ‹_› L ((aB 0x206f122af418fe1) hn) ((dL 2401104175)) λi1 c5 S L6=>iT<|xj ((aB 0xaf0ef17f01f10ef01f125f17f08f1df01f1) S) ?_)<|uR;rw[show((i1:Int)).toNat=i1 from rfl];refine DH (n:=i1) [ak "lap",ak "one",ak "other"] (λj ah=>∃s n e,Lw CH CB CU a s t nl cells n ns ah/\Good e s/\mI s/\n<=31+4*j/\e<=j) rfl (jQ s (n+1) 0<|km L6 G T (iv hn)<|bS 0) ?_ ?_
  .intro j ah b6 Q2 hj l Y e6;calc gz l λs n e C=>fi C λL G T P a9=>ai (Fs hj) λcnt a1=>?_;have hn:n+4*(cnt+1)<=50:=(aV 0x210f418f03f12418f331f16a403f308f1df01fa) P a1 S;have r1:=Y.tr (x:=ak "tape") rfl r1;have r3:=Y.tr (x:=ak "numbers") rfl r3;tm_at"1";calc aU<|yz (names:=[ak "one",ak "other"]) (by rfl) ((wY a6).trans rfl) (by rw[a6];rfl)<|cT<|ba ?_;calc eh GF λ_ _=>?_;calc ba<|cf r1<|ba<|rJ I (by tm_at"k") (by decide) (by rfl) (by rfl)<|ba<|cf r3 ?_;lk;calc jm L.nm (by rw[au];calc(aB 0x205f12104f209f4e1) D r) ?_;rw[au];lk;calc aW.up (k:=1) (pK (k:=0) GF I hc ‹_› L ((aq 0x206f1210f418fc1) hn) (m:=(ns.length:Nat)) ((aB 0x8f01f112f2104f209f4e1) D r) λi2 c8 a5 L8=>ba ?_)<|uR;calc eh GF λ_ _=>?_;calc ba<|cf r1<|ba<|rJ I (by tm_at"k") (by decide) (by rfl) (by rfl)<|ba<|cf r3 ?_;lk;calc jm L8.nm (by rw[au];calc(aB 0x205f12104f209f4e1) D r) ?_;rw[au];lk;calc aW.up (k:=1) (pK (k:=0) GF I hc ‹_› L8 ((aq 0x206fb210f418fc1) hn) (m:=(ns.length:Nat)) ((aB 0x8f01f112f2104f209f4e1) D r) λi3 d9 d1 L9=>?_)<|uR;have X:i2<ns.length:=xp a5;have b1:i3<ns.length:=xp d1;calc iT ⟨lb rfl,.inl ⟨[.int (i2:Nat),.int (i3:Nat)],rfl,_,As,rfl,aU<|eG ?_⟩⟩;tm_at"m";calc bJ (Y.tr (x:=ak "heap") rfl r2)<|eF L9.hp.at_ W.H.cls W.LS (by decide+kernel) λg hg=>ba<|jA (λ_ _=>by rfl)<|cf r3 ?_;lk;calc li L9.nm (mf) ((aq 0x8f20f01f12304f209f4e308f01f301f1) D r a5) (xv X)<|ba<|jA (λ_ _=>by rfl)<|cf r3 ?_;lk;calc li L9.nm (mf) ((aq 0x8f20f01f12304f209f4e308f01f301f1) D r d1) (xv b1)<|ba<|cT ?_;lk;calc⟨lb rfl,.inl ⟨[_,_],rfl,?_⟩⟩;lk;exact aW.up (k:=4) (VS (k:=0) W hg L9.hp G (L9.all _<|gJ X) (L9.all _<|gJ b1) ((ax 0x206f1210f418f03f3232f403f1) hn<|(aV 0x232f403f12316a403f308f1df01fa) a9 a1 S) λs' ah v X' G' J f'=>cE<|e6 _ _ (jQ s' (n+2) (e+1)<|km (L9.heap X' f'<|fO (congrArg Cw J).symm) G' (by unfold mI;rw[J];calc T) ((aq 0x2418fc31f404f12418f331f1) P)<|iv a9)<|((Y.set rfl).set rfl).set rfl)<|(aB 9710800943)
  .intro ah b6 l Y;calc gz l λs n e C=>fi C λL G T P a9=>?_;have r2:=Y.tr (x:=ak "heap") rfl r2;calc aU<|eG ?_;tm_at"m";calc bJ r2<|eF L.hp.at_ W.H.cls W.MQ (by decide+kernel) λg hg=>?_;lk;calc aW.up (k:=5) (Tq (k:=0) W hg L.hp G ((aB 35661418788065)<|(aq 0x232f4e123108f1df01f3) a9 S) λs' ah X' G' J f'=>aU<|eX<|cT<|ba<|bJ r2<|ba<|cf (Y.tr rfl r3)<|iT ⟨lb rfl,.inr<|q ah a s' nl n ns e (L.heap X' f'<|by rw[J];calc bS _) G' (by unfold mI;rw[J];calc T) ((aB 0x2182104f209f4e1) D r) ((aB 35867574531297) r)<|(aB 0x20ff1210f418fe1)<|(aq 0x210f418fe12418f331f108f1df01f3) P S⟩)<|(aB 9710801087)
end
section
variable{c:Cx}{k:Nat}{V:Env}{O ah:al}{ρ:az}
structure cq where
 key:Nat
 ad:Addr
 xs:List Nd
noncomputable def cq.row(g:cq):Dt×PV:=(.int g.key,.ref g.ad)
noncomputable def cq.fz(g:cq):Dt×PV:=(.int g.key,.d<|.lst<|g.xs.map Nd.dt)
theorem bC.Uq(h:∀v,RV w B p v->RV w B C v):∀{a b:List PV} {vs:List Value},bC w B (a++p::b) vs->bC w B (a++C::b) vs:=by
 intro l;induction l with
 |nil=>
  intro b vs m;obtain⟨v,g,e,r,j⟩:=m;calc⟨v,g,e,h v r,j⟩
 |cons q a D=>
  intro b vs z;obtain⟨v,g,e,r,j⟩:=z;calc⟨v,g,e,r,D j⟩
theorem Sat.C4:∀(h done:List cq) {B:Look} {O:al},Sat c B O R s->O nd=some (.aM<|done.map cq.fz++h.map cq.row)->(∀g∈h,O g.ad=some (.lst<|g.xs.map λn=> .d n.dt))->(h.map cq.ad).Nodup->(∀g∈h,g.ad≠nd)->∃B' ah,B.le B'/\Sat c B' ah R s/\ah nd=some (.aM<|(done++h).map cq.fz)/\∀b,b≠nd->b∉h.map cq.ad->ah b=O b:=by
 intro C;induction C with
 |nil=>
  calc λdone B O S hd D r l=>bv B O<|cx (Look.le_refl B) S (by rw[hd,yU,ea,ea]) λ_ _ _=>rfl
 |cons g h N=>
  intro done B O S hd D r l;rw[dK,iM] at r;calc ai (S.freeze (D g dC) (d:= .lst<|g.xs.map Nd.dt)<|.inl ⟨g.xs.map Nd.dt,by rw[bg];rfl,rfl⟩) λP H=>aN H λl1 z T=>?_;have I:=l g dC;have m:del O g.ad nd=some (.aM<|done.map cq.fz++(g::h).map cq.row):=by unfold del;rw[if_neg (cI I)];exact hd
  obtain⟨o,U,es,ep,rfl,h1,L,X,Y,Z,h6⟩:=z.fm nd _ m;have hk:((done.map cq.fz++g.fz::h.map cq.row).map (·.1))=((done.map cq.fz++(g::h).map cq.row).map (·.1)):=by rw[cb,cb,dK,dK,dK];rfl
  have S2:Sat c P (upd (del O g.ad) nd<|.aM (done.map cq.fz++g.fz::h.map cq.row)) R s:=by calc z.own (z.tu m) (z.xV m) U ⟨es,ep,rfl,by rw[hk];calc h1,?_,by rw[hk];calc X,by rw[hk];calc Y,by rw[hk];calc Z,by rw[hk];calc h6⟩;rw[cb,dK] at L|-;exact bC.Uq (p:= .ref g.ad) (λv hv=>by rw[show v= .ref g.ad from hv];calc T) L
  obtain⟨B',ah,l2,S3,J,hf⟩:=N (done++[g]) S2 (by rw[bo,cb];simp) (λq j=>by have e2:q.ad≠g.ad:=λe=>r.1<|e▸cL j;rw[aC (l q<|dw _ j)];unfold del;rw[if_neg e2];calc D q<|dw _ j) r.2 λq j=>l q<|dw _ j;calc bv B' ah<|cx (Look.le_trans l1 l2) S3 (by rw[J,eK];rfl) λb hb hm=>?_;rw[dK,dD,not_or] at hm;rw[hf b hb hm.2,aC hb];unfold del;rw[if_neg hm.1]
theorem A3{x:Str}{nd:Addr}{G:List cq}{Q:Fl->al->az->Prop}(D:ρ x=some (.ref nd))(hd:O nd=some (.aM<|G.map cq.row))(H:∀g∈G,O g.ad=some (.lst<|g.xs.map λn=> .d n.dt))(I:(G.map cq.ad).Nodup)(l:∀g∈G,g.ad≠nd)(h:∀ah,(∀b,b≠nd->b∉G.map cq.ad->ah b=O b)->WB c k V (aZ ρ x<|.d<|tB<|G.map λg=>(g.key,g.xs)) m ah Q):WB c k V ρ m O Q:= .mk λA B R s r S L=>by calc aE (S.C4 G [] hd H I l) λB1 p j=>bV j λl1 J z hf=>ai (J.freeze z (d:=tB<|G.map λg=>(g.key,g.xs))<|.inr ⟨G.map λg=>(.int g.key,.lst<|g.xs.map Nd.dt),by rw[bg];rfl,by unfold tB;rw[bg,bg,bg,bg];rfl⟩) λN j=>aN j λl2 P T=>aS ((h (del p nd) λb hb hm=>by unfold del;rw[if_neg hb];calc hf b hb hm).1 A N R s r P<|L.turn (Look.le_trans l1 l2) D λv U=>by rw[show v= .ref nd from U];calc T) (λ_ _ X=>?_) λ_ _ x=>x;obtain⟨B',ah,Y,C,fl,Z,hr,S',L',rf,q⟩:=X;calc⟨B',ah,Y,C,fl,Look.le_trans (Look.le_trans l1 l2) Z,hr,S',L',rf,q⟩
end
section
variable{s:Hp}{e:Nat}
mutual
noncomputable def Mt(s:Hp)(g:Str->Nat):Nat->Tm->Prop
 |r,.nd x l=>(isQ x=true/\g x=r)\/(isQ x=false/\∃m,fx s r m/\m.op=x/\om s g m.kids l)
noncomputable def om(s:Hp)(h:Str->Nat):List Nat->List Tm->Prop
 |ks,[]=>ks=[]
 |ks,t::j=>∃k g,ks=k::g/\Mt s h k t/\om s h g j
end
theorem Xx(h:om s m ks l):ks.length=l.length:=by
 induction l generalizing ks with
 |nil=>calc congrArg Cw<|show ks=[] from h
 |cons t p g=>calc aE h λk j q=>aN q λe Z h=>e▸congrArg (·+1) (g h)
noncomputable def kw(g:Str->Nat)(b:Tb):Prop:=∀e∈b,g e.1=e.2
structure rl(s:Hp)(nt:NT):Prop where
 ok:sV nt
 cls:∀r∈nt.map (·.1),∀n,n∈jq nt r↔fx s r n
theorem rl.kt(h:rl s nt)(g:r∈nt.map (·.1))(j:n∈jq nt r):∀x∈n.kids,x∈nt.map (·.1):=h.ok.kids _ (FK h.ok.nd g).1 n j
theorem MT(h:lK tb x=some d):(x,d)∈tb:=by calc ai (jX.mp h) λe g=>aw g λhe j=>?_;clear g;clear h;subst j;have h1:=tO he;have l:=wF he;rw[<-(of_decide_eq_true l)];calc h1
theorem VI(h:rl s nt)(j:Str->Nat):(∀(t:Tm) (r:Nat) (tb b:Tb),r∈nt.map (·.1)->b∈fF nt t r tb->kw j b->kw j tb/\Mt s j r t)/\∀(l:List Tm) (ks:List Nat) (so:List Tb) (b:Tb),(∀x∈ks,x∈nt.map (·.1))->ks.length=l.length->b∈eZ nt l ks so->kw j b->∃tb∈so,kw j tb/\om s j ks l:=by
 refine Tm.ind (λx l z r tb b J=>?_) (λks so b hk p hb g=>⟨b,aR hb g<|BM.mp p⟩) λt Z C D ks so b hk p hb g=>?_
 .refine Fg (P:=λL=>b∈L->kw j b->kw j tb/\Mt s j r (.nd x l)) (λm hd hb g=>?_) (λh=>cX h) (λm _ hb g=>?_) λm hb g=>?_
  .rw[ci.mp hb] at g;exact⟨g,.inl ⟨m,g _<|MT hd⟩⟩
  .rw[ci.mp hb] at g;exact⟨λe he=>g e<|dh _ he,.inl ⟨m,g (x,r)<|cn _<|.head _⟩⟩
  .refine ai (FX hb) λn q=>aN q λN hc hb=>ai (z n.kids [tb] b (h.kt J N) hc.2 hb g) λS q=>aN q λT h1 H=>?_;rw[ci.mp T] at h1;exact⟨h1,.inr ⟨m,n,aR ((h.cls r J n).mp N) hc.1 H⟩⟩
 .cases ks with
  |nil=>calc nomatch p
  |cons k ks=>
   have hk:=mZ.mp hk;calc ai (D ks _ b hk.2 (qy p) hb g) λI q=>aN q λh1 H U=>ai (gI.mp h1) λtb q=>aw (C k tb I hk.1 q.2 H) λX Y=>⟨tb,aR q.1 X<|bv k ks<|aR rfl Y U⟩
theorem YE(h:rl s nt)(g:Str->Nat):∀(t:Tm) (r:Nat) (tb b:Tb),r∈nt.map (·.1)->b∈fF nt t r tb->kw g b->kw g tb/\Mt s g r t:=(VI h g).1
theorem XC(h:rl s nt)(j:Str->Nat):(∀(t:Tm) (r:Nat) (tb:Tb),r∈nt.map (·.1)->kw j tb->Mt s j r t->∃b∈fF nt t r tb,kw j b)/\∀(l:List Tm) (ks:List Nat) (so:List Tb) (tb:Tb),(∀x∈ks,x∈nt.map (·.1))->tb∈so->kw j tb->om s j ks l->∃b∈eZ nt l ks so,kw j b:=by
 refine Tm.ind (λx l C r tb L g hm=>?_) (λks so tb hk D g hm=>⟨tb,D,g⟩) λt S H I ks so tb hk D g hm=>?_
 .refine wT (show _\/_ from hm) (λhb=>?_) λhm=>ai hm.2 λm q=>aN q λhi N p=>?_
  .rw[Dp hb.1]
   cases hk:lK tb x with
   |some d=>
    rw[OG,if_pos ((g _<|MT hk).symm.trans hb.2)];calc⟨tb,.head _,g⟩
   |none=>exact⟨tb++[(x,r)],.head _,BO.mpr ⟨g,fa hb.2 dF⟩⟩
  .rw[Dz hm.1];have z:=(h.cls r L m).mpr hi;calc ai (C m.kids [tb] tb (h.kt L z) (.head _) g p) λb q=>⟨b,gI.mpr ⟨m,z,?_⟩,q.2⟩;rw[if_pos ⟨N,Xx p⟩];exact q.1
 .refine aE hm λk J q=>aN q λe h1 P=>?_;rw[e] at hk|-;have hk:=mZ.mp hk;calc ai (H k tb hk.1 g h1) λb q=>I J _ b hk.2 (gI.mpr ⟨tb,D,q.1⟩) q.2 P
theorem B7(h:rl s nt)(g:Str->Nat):∀(t:Tm) (r:Nat) (tb:Tb),r∈nt.map (·.1)->kw g tb->Mt s g r t->∃b∈fF nt t r tb,kw g b:=(XC h g).1
theorem WW(h:(b.map (·.1)).Nodup):∃g,kw g b:=Eu (λZ=>0) h
theorem zK(h:rl s nt)(l:r∈nt.map (·.1)):fF nt t r []≠[]↔∃g,Mt s g r t:=⟨λj=>ai (List.exists_mem_of_ne_nil _ j) λb hb=>ai (WW<|WK t r [] hX b hb) λg m=>⟨g,(YE h g t r [] b l hb m).2⟩,λq he=>ai q λg hm=>ai (B7 h g t r [] l dF hm) λb q=>cX<|he▸q.1⟩
theorem Ka(g:Tm->Tm):(Tm.nd x<|l.map g).fg=(Tm.nd x l).fg:=by unfold Tm.fg isVar;show(decide (((l.map g).map Tm.dt).length=0)&&_)=(decide ((l.map Tm.dt).length=0)&&_);rw[au,au,au];rfl
theorem zr:(Tm.nd x l).sub σ=if(Tm.nd x l).fg=true then σ x else .nd x (Tm.subs σ l):=rfl
theorem sub_sub(σ τ:Str->Tm)(t:Tm):(t.sub σ).sub τ=t.sub λv=>(σ v).sub τ:=(Tm.ind (P:=λt=>(t.sub σ).sub τ=t.sub λv=>(σ v).sub τ) (Q:=λl=>Tm.subs τ (Tm.subs σ l)=Tm.subs (λv=>(σ v).sub τ) l) (λx l g=>by
   rw[zr,zr];by_cases h:(Tm.nd x l).fg=true
   .rw[if_pos h,if_pos h]
   .rw[if_neg h,if_neg h,zr,if_neg<|by rw[Tm.EX,Ka];calc h,g])
  rfl λZ Z h k=>OK.mpr ⟨h,k⟩).1 t
theorem Inst.trans(h:Inst a b)(h':Inst b c):Inst a c:=by obtain⟨σ,rfl⟩:=h;obtain⟨τ,rfl⟩:=h';calc⟨_,(sub_sub σ τ a).symm⟩
theorem Dw(hi:i<51)(hj:j<51)(h:gW i=gW j):i=j:=by
 have:∀i j:Fin 51,gW i.val=gW j.val->i.val=j.val:=by decide+kernel
 calc this ⟨i,hi⟩ ⟨j,hj⟩ h
theorem ZY(g:a<7)(hb:b<7)(j:x<7)(hy:y<7)(h:vStr a b=vStr x y):a=x/\b=y:=by
 have:∀a b x y:Fin 7,vStr a.val b.val=vStr x.val y.val->a.val=x.val/\b.val=y.val:=by decide+kernel
 calc this ⟨a,g⟩ ⟨b,hb⟩ ⟨x,j⟩ ⟨y,hy⟩ h
theorem Lv(l vs:List Tm):vs<+:(Tm.cJ vs l).1:=(Tm.ind (P:=λt=>∀vs:List Tm,vs<+:(t.nm vs).1) (Q:=λl=>∀vs:List Tm,vs<+:(Tm.cJ vs l).1) (λZ Z g vs=>vX (P:=λq=>vs<+:q.1) (λZ Z=>GW _) (λZ Z=>List.prefix_append ..) λZ=>g vs) (λZ=>GW _) λZ Z h k vs=>(h vs).trans<|k _).2 l vs
theorem JJ{vs j:List Tm}(h:vs<+:j){v:Tm}(g:v∈vs):j.idxOf v=vs.idxOf v:=by obtain⟨w,rfl⟩:=h;rw[O0,if_pos g]
noncomputable def nu(g:List Tm)(x:Str):Tm:=qv<|g.idxOf<|.nd x []
theorem Vx(t:Tm):∀vs:List Tm,fc t->(t.nm vs).1<+:I->(t.nm vs).2=t.sub (nu I):=(Tm.ind (P:=λt=>∀vs:List Tm,fc t->(t.nm vs).1<+:I->(t.nm vs).2=t.sub (nu I)) (Q:=λl=>∀vs:List Tm,(∀u∈l,fc u)->(Tm.cJ vs l).1<+:I->(Tm.cJ vs l).2=Tm.subs (nu I) l) (λx l p vs h=>by
   rw[zr,h.fg];refine vX (P:=λq=>q.1<+:I->q.2=_) (λj m g=>?_) (λj m g=>?_) λj g=>?_
   .have r:l=[]:=h.2 _ (uQ _) j;rw[if_pos j,<-JJ g m,r];rfl
   .have r:l=[]:=h.2 _ (uQ _) j;rw[if_pos j,nu,<-r,JJ g<|cn _<|.head _,O0,if_neg m];simp
   .rw[if_neg j,p vs (λu z=>h.kt z) g])
  (λZ Z Z=>rfl) λt H C D vs h g=>OK.mpr ⟨C vs (h t<|.head _)<|(Lv H _).trans g,D _ (λu z=>h u<|.tail _ z) g⟩).1 t
noncomputable def Fi(j:List Tm)(g h:Str->Nat):Prop:=∀k x y,k<51->x<7->y<7->j[k]? =some (vT x y)->g (gW k)=x/\h (gW k)=y
theorem ZN(U:List Tm):∃r C,Fi U r C:=by
 have pick:∀z:Str,∃p:Nat×Nat,∀k x y,k<51->x<7->y<7->U[k]? =some (vT x y)->z=gW k->p=(x,y):=λz=>by
  by_cases h:∃k x y,k<51/\x<7/\y<7/\U[k]? =some (vT x y)/\z=gW k
  .refine gz h λk x y g=>fi g λh1 l m q j=>?_;clear g h;subst j;calc⟨(x,y),λP S T H I J D L=>?_⟩;have:=Dw h1 H L;clear H L;subst this;rw[q] at D;have:=Tm.nd.inj<|gn D;calc aw (ZY l m I J this.1) λg j=>?_;clear I;subst g;clear J D this;subst j;rfl
  .exact⟨(0,0),λk x y h1 l m q N=>absurd (jQ k x y<|km h1 l m q N) h⟩
 calc⟨λz=>(pick z).choose.1,λz=>(pick z).choose.2,λk x y h1 l m q=>by have:=(pick<|gW k).choose_spec k x y h1 l m q rfl;calc⟨congrArg CO this,congrArg zi this⟩⟩
theorem MU{vs j:List Tm}(h:vs<+:j){i:Nat}(g:vs[i]? =some v):j[i]? =some v:=by obtain⟨w,rfl⟩:=h;rw[List.getElem?_append_left (dJ.mp g).1];calc g
theorem Jp{vs:List Tm}(h:v∈vs):vs[vs.idxOf v]? =some v:=dJ.mpr ⟨BL.mpr h,N0 _⟩
theorem IG(q:Fi C j l)(r:C.length<=50)(z:a<7)(hb:b<7)(hk:C[k]? =some (vT a b)):Mt s j a (qv k)/\Mt s l b (qv k):=have g:=fL (dJ.mp hk).1<|aL r<|lb (m:=51) rfl;have h:=q k a b g z hb hk;have p:=(Ax ⟨k,g⟩).2;⟨.inl ⟨p,h.1⟩,.inl ⟨p,h.2⟩⟩
theorem Mu(G:Good e s)(g:isQ x=true)(h:du s a b<|.nd x l):Tm.nd x l=vT a b:=wT h (λh=>h.1▸h.2▸rfl) λh=>aE h λm Z p=>vj<|g.symm.trans<|p.2.2.1▸(G.wh p.1).ok.1.Ix.2
theorem ZD(G:Good e s){a0:List Tm}{g j:Str->Nat}(S:Fi a0 g j)(T:a0.length<=50)(t:Tm):∀(vs:List Tm) (a b:Nat),a<7->b<7->du s a b t->(t.nm vs).1<+:a0->Mt s g a (t.nm vs).2/\Mt s j b (t.nm vs).2:=have K {r:Nat} {m:Nd} (hm:fx s r m):∀x∈m.kids,x<7:=λx z=>fL (hm.kids G x z) G.nz;(Tm.ind (P:=λt=>∀(vs:List Tm) (a b:Nat),a<7->b<7->du s a b t->(t.nm vs).1<+:a0->Mt s g a (t.nm vs).2/\Mt s j b (t.nm vs).2) (Q:=λl=>∀(vs:List Tm) (xs ys:List Nat),(∀x∈xs,x<7)->(∀x∈ys,x<7)->jG s xs ys l->(Tm.cJ vs l).1<+:a0->om s g xs (Tm.cJ vs l).2/\om s j ys (Tm.cJ vs l).2) (λx l X vs a b I hb h=>vX (P:=λq=>q.1<+:a0->Mt s g a q.2/\Mt s j b q.2) (λC hm hp=>IG S T I hb<|(MU hp<|Jp hm).trans<|congrArg some<|Mu G C h) (λC _ hp=>IG S T I hb<|(MU hp F8).trans<|congrArg some<|Mu G C h) λC hp=>aE (Or.resolve_left (show _\/_ from h) λh=>C<|h.1▸(Bm I hb).2) λm n p=>fi p λhm U h1 J hc=>aw (X vs m.kids n.kids (K hm) (K U) hc hp) λY Z=>⟨.inr ⟨qr.mpr C,m,aR hm h1 Y⟩,.inr ⟨qr.mpr C,n,aR U J Z⟩⟩) (λ_ _ _ _ _ h _=>h) λt ts L N vs xs ys z hy h hp=>jV h λx D y H p=>bV p λe1 e2 h1 J=>by rw[e1] at z|-;rw[e2] at hy|-;have z:=mZ.mp z;have hy:=mZ.mp hy;calc aw (L vs x y z.1 hy.1 h1<|(Lv ts _).trans hp) λa1 a2=>aw (N _ D H z.2 hy.2 J hp) λb1 b2=>⟨bv x D<|aR rfl a1 b1,bv y H<|aR rfl a2 b2⟩).1 t
theorem Tj(h:fc<|.nd x l)(g:isQ x=true):(Tm.nd x l).sub σ=σ x:=if_pos<|h.fg.trans g
theorem FS(h:(Tm.nd x l).fg=isQ x)(g:isQ x=false):(Tm.nd x l).sub σ= .nd x (Tm.subs σ l):=if_neg λk=>ek<|g.symm.trans<|h.symm.trans k
theorem fc.q(h:fc<|.nd x l)(g:isQ x=true):l=[]:=h.2 _ (uQ _) g
theorem Mt.q(g:isQ x=true)(h:Mt s j r<|.nd x l):j x=r:=wT h (·.2) λh=>ek<|h.1.symm.trans g
theorem Mt.n(g:isQ x=false)(h:Mt s j r<|.nd x l):∃m,fx s r m/\m.op=x/\om s j m.kids l:=wT h (λh=>ek<|g.symm.trans h.1) (·.2)
theorem Ys(q:Tm):∀(a b:Nat),fc q->Mt s g a q->Mt s h b q->du s a b (q.sub λv=>vT (g v)<|h v)/\(q.sub λv=>vT (g v)<|h v).rows.length=q.rows.length:=(Tm.ind (P:=λq=>∀(a b:Nat),fc q->Mt s g a q->Mt s h b q->du s a b (q.sub λv=>vT (g v)<|h v)/\(q.sub λv=>vT (g v)<|h v).rows.length=q.rows.length) (Q:=λl=>∀(xs ys:List Nat),(∀u∈l,fc u)->om s g xs l->om s h ys l->jG s xs ys (Tm.subs (λv=>vT (g v)<|h v) l)/\(Tm.bx<|Tm.subs (λv=>vT (g v)<|h v) l).length=(Tm.bx l).length) (λx l S a b r h1 j=>by
   cases z:isQ x with
   |true=>
    rw[Tj r z,Mt.q z h1,Mt.q z j,r.q z];calc⟨.inl ⟨rfl,rfl⟩,rfl⟩
   |false=>
    rw[FS r.fg z];calc ai (Mt.n z h1) λm p=>aN p λhm e1 h1=>ai (Mt.n z j) λn p=>aN p λT e2 j=>aw (S m.kids n.kids (λu H=>r.kt H) h1 j) λI J=>⟨.inr<|bv m n<|km hm T e1 e2 I,congrArg (·+1) J⟩)
  (λ_ _ _ h1 j=>⟨⟨h1,j⟩,rfl⟩)
  λt ts L N xs ys r h1 j=>aE h1 λx C p=>aN p λe1 U X=>aE j λy D p=>aN p λe2 a2 b2=>aw (L x y (r t<|.head _) U a2) λI J=>aw (N C D (λu H=>r u<|.tail _ H) X b2) λY Z=>⟨oG x C y D<|cx e1 e2 I Y,bA.trans<|(congr (congrArg HAdd.hAdd J) Z).trans bA.symm⟩).1 q
noncomputable def Bo(s:Hp)(a b most:Nat)(t:Tm):Prop:=t∈pats most/\(∃g,Mt s g a t)/\∃g,Mt s g b t
theorem EI(G:Good e s)(j:a<s.nodes.length)(hb:b<s.nodes.length)(hm:most<=4)(z:Found s a b most F)(C:t∈F):Bo s a b most t:=have j:=fL j G.nz;have hb:=fL hb G.nz;ai ((z.2 t).mp C) λp h=>aN h λh1 r D=>aE (ZN (p.nm []).1) λl q H=>have g:=ZD G H (aL (Tm.Lk p [])<|aL (fO<|np _)<|aL h1<|aL hm<|lb (m:=50) rfl) p [] a b j hb r<|GW _;D▸⟨LY G j hb hm h1 r rfl,⟨l,g.1⟩,q,g.2⟩
noncomputable def gd(m:Nat):List Tm:=(cS m).map qv
theorem RB(m:Nat):gd m++[qv m]=gd (m+1):=by unfold gd;rw[Cd,cb];rfl
theorem Ni(hm:m<=50)(hk:k<=50):qv k∈gd m↔k<m:=by
 unfold gd;rw[bb];constructor
 .intro g;calc ai g λj l=>aw l λhj e=>?_;have hj:=eM.mp hj;exact(ax 30894413333) hj<|Dw ((aq 0x73ef1210f3731) hm hj) ((aB 497932177649) hk) (Tm.nd.inj e).1
 .intro h;calc⟨k,eM.mpr h,rfl⟩
theorem Jo(m:Nat):(gd m).length=m:=(au _).trans lS
theorem ZL{m k:Nat}(hm:m<=50)(hk:k<m):(gd m).idxOf (qv k)=k:=by have g:=(Ni hm<|aL (lV hk) hm).mpr hk;have h:(gd m).idxOf (qv k)<m:=tR (BL.mpr g)<|Jo m;have h1:=Jp g;rw[gd,dm,<-gd,M4 h] at h1;calc Dw (HB (fL h hm)<|pa 50) (HB (fL hk hm)<|pa 50) (Tm.nd.inj<|gn h1).1
noncomputable def Af(r:Tm):Prop:=gT r.str/\(isQ r.str=true->r.str=ak "?"/\r.kids=[])
theorem Gh(h:¬isQ x=true):(Tm.nd x l).nm vs=((Tm.cJ vs l).1,.nd x (Tm.cJ vs l).2):=if_neg h
theorem Rf(hm:m+1<=50)(hk:k<=m):(qv k).nm (gd m)=(gd<|max m<|k+1,qv k):=have g:=ja hm;have i:=Ni g<|aL hk g;vX (P:=λr=>r=(gd<|max m<|k+1,qv k)) (λZ h=>by rw[show(gd m).idxOf (.nd (gW k) [])=k from ZL g<|i.mp h,Pa (i.mp h)]) (λZ h=>by
   rw[Jo,(Nat.le_antisymm hk<|lX.mp λh'=>h<|i.mpr h'),OV<|oa m,<-RB];rfl)
  λh=>absurd (Ax ⟨k,oZ<|aL hk g⟩).2 h
noncomputable def QT(r:Tm):Prop:=gT r.str/\(isQ r.str=true->r.kids=[])
theorem Qs(t:Tm):∀m,∀q∈t.sp m,(∀r∈t.rows,Af r)->m+t.rows.length<=50->q.2<=m+t.rows.length/\q.1.nm (gd m)=(gd q.2,q.1)/\q.1.rows.length=t.rows.length/\∀r∈q.1.rows,QT r:=Ig (P:=λt m j k=>(∀r∈t.rows,Af r)->m+t.rows.length<=50->k<=m+t.rows.length/\j.nm (gd m)=(gd k,j)/\j.rows.length=t.rows.length/\∀r∈j.rows,QT r) (Q:=λl m p k=>(∀r∈Tm.bx l,Af r)->m+(Tm.bx l).length<=50->k<=m+(Tm.bx l).length/\Tm.cJ (gd m) p=(gd k,p)/\(Tm.bx p).length=(Tm.bx l).length/\∀r∈Tm.bx p,QT r) (λm k hk Z hz=>cx (qA.mpr ⟨oa m,iv hk⟩) (Rf hz hk) rfl<|fa ⟨(Ax ⟨k,yN hk<|tU hz⟩).1,λZ=>rfl⟩ dF) (λx l m p k h L g hz=>have g:=mZ.mp g;bV (L g.2<|ja hz) λC D H I=>have z:¬isQ x=true:=λz=>h ⟨(g.1.2 z).1,Ca.mpr (g.1.2 z).2⟩;cx (nf C) ((Gh z).trans<|by rw[D]) (congrArg (·+1) H)<|fa ⟨g.1.1,λh=>absurd h z⟩ I) (λm Z Z=>cx (bS _) rfl rfl dF) (λt J m j k p Y h1 N g hz=>by have g:=BO.mp g;have e:m+(Tm.bx (t::J)).length=m+t.rows.length+(Tm.bx J).length:=(congrArg _ bA).trans (sg ..).symm;rw[e] at hz|-;calc bV (h1 g.1<|aL (kI ..) hz) λC D H I=>?_;have l1:=wx C (Tm.bx J).length;calc bV (N g.2<|aL l1 hz) λS T U X=>cx (aL S l1) ?_ (bA.trans<|(congr (congrArg HAdd.hAdd H) U).trans bA.symm)<|BO.mpr ⟨I,X⟩;show((Tm.cJ (j.nm<|gd m).1 p).1,(j.nm<|gd m).2::(Tm.cJ (j.nm<|gd m).1 p).2)=_;rw[D,T]) t
noncomputable def Ro(n:Nat)(t:Tm):Bool:=decide (t.rows.length<=n)&&t.rows.all λr=>gp r.str&&decide (1<=r.str.cps.size)&&decide (r.str.cps.size<=1000)&&(!isQ r.str||(decide (r.str=ak "?")&&r.kids.isEmpty))
theorem Qw:∀n:Fin 5,(trees n.val).all (Ro n.val)=true:=by decide+kernel
theorem band(h:(a&&b)=true):a=true/\b=true:=iu.mp h
theorem MV(j:n<=4)(l:t∈trees n):t.rows.length<=n/\∀r∈t.rows,Af r:=have h:=band<|jb.mp (Qw ⟨n,oZ j⟩) t l;⟨of_decide_eq_true h.1,λr m=>by have h:=band<|jb.mp h.2 r m;have k:=band h.1;have g:=band k.1;calc⟨⟨g.1,of_decide_eq_true g.2,of_decide_eq_true k.2⟩,λp=>?_⟩;have h:=h.2;rw[p] at h;calc⟨of_decide_eq_true (band h).1,Ca.mp (band h).2⟩⟩
theorem rB(hm:most<=4)(h:q∈pats most):(q.nm []).2=q/\fc q/\q.rows.length<=most:=ai (gI.mp h) λn p=>ai (gI.mp p.2) λt c=>ai (bb.mp c.2) λC d=>by have j:=eM.mp p.1;have h:=MV (aL j hm) c.1;have hz:t.rows.length<=most:=aL h.1 j;calc bV (Qs t 0 C d.1 h.2<|aL (fO<|np _)<|aL hz<|aL hm<|lb (m:=50) rfl) λZ D l z=>?_;rw[<-d.2];calc aR (congrArg zi D) ⟨⟨aL (l▸hz)<|aL hm<|oa 4,λr g=>(z r g).1⟩,λr g=>(z r g).2⟩<|l▸hz
theorem JA(G:Good e s)(h:a<s.nodes.length)(hb:b<s.nodes.length)(hm:most<=4)(j:Found s a b most F)(l:Bo s a b most q):∃t∈F,Inst q t:=aN l λh1 m p=>ai m λr z=>ai p λC D=>aw (rB hm h1).2 λH hz=>aw (Ys q a b H z D) λhc g=>by have g:=aL (fO g) hz;calc⟨_,(j.2 _).mpr ⟨_,aR g hc rfl⟩,?_⟩;rw[Vx _ [] (xK G h hb hc<|aL g<|aL hm<|oa 4) (GW _),sub_sub];calc⟨_,rfl⟩
theorem Vv{u:Tm}(h:u.fg=true):isQ u.str=true:=(band h).2
theorem Te{u p:Tm}{τ:Str->Tm}(hp:fc p)(g:isQ p.str=true)(h:u.sub τ=p):u.fg=true:=by
 cases u with
 |nd y l=>cases j:(Tm.nd y l).fg with
  |true=>rfl
  |false=>
   rw[<-((if_neg λk=>ek<|j.symm.trans k).symm.trans h)] at hp g;cases l with
   |nil=>calc j.symm.trans g
   |cons t m=>calc rq<|hp.q g
theorem idx_map(vs:List Tm)(p:Tm)(h:∀v∈vs,(v.sub σ).sub τ=v)(hp:(p.sub σ).sub τ=p):(vs.map<|Tm.sub σ).idxOf (p.sub σ)=vs.idxOf p:=by
 induction vs with
 |nil=>calc rfl
 |cons v vs g=>
  have h:=mZ.mp h;have e:(v.sub σ==p.sub σ)=(v==p):=T0.mpr (by rw[beq_iff_eq,beq_iff_eq];calc⟨λe=>by rw[<-h.1,e,hp],λe=>e▸rfl⟩);rw[dK,S8,S8,g h.2,e]
theorem MX{σ τ:Str->Tm}{vs:List Tm}{p:Tm}(h:∀v∈vs,(v.sub σ).sub τ=v)(hp:(p.sub σ).sub τ=p):p.sub σ∈vs.map (Tm.sub σ)↔p∈vs:=⟨λk=>ai (bb.mp k) λv q=>(h v q.1).symm.trans ((congrArg _ q.2).trans hp)▸q.1,cL⟩
theorem KP(h:u.fg=true)(vs:List Tm):u.nm vs=if u∈vs then(vs,qv<|vs.idxOf u) else(vs++[u],qv vs.length):=by
 cases u with
 |nd x l=>calc if_pos<|Vv h
theorem YB(vs:List Tm)(t:Tm)(g:List Tm):Tm.cJ vs (t::g)=((Tm.cJ (t.nm vs).1 g).1,(t.nm vs).2::(Tm.cJ (t.nm vs).1 g).2):=rfl
theorem SY(p:Tm):∀(vs:List Tm),fc p->(p.sub σ).sub τ=p->(∀v∈vs,(v.sub σ).sub τ=v)->(p.sub σ).nm (vs.map<|Tm.sub σ)=((p.nm vs).1.map<|Tm.sub σ,(p.nm vs).2)/\∀v∈(p.nm vs).1,(v.sub σ).sub τ=v:=(Tm.ind (P:=λp=>∀(vs:List Tm),fc p->(p.sub σ).sub τ=p->(∀v∈vs,(v.sub σ).sub τ=v)->(p.sub σ).nm (vs.map<|Tm.sub σ)=((p.nm vs).1.map<|Tm.sub σ,(p.nm vs).2)/\∀v∈(p.nm vs).1,(v.sub σ).sub τ=v) (Q:=λl=>∀(vs:List Tm),(∀u∈l,fc u)->Tm.subs τ (Tm.subs σ l)=l->(∀v∈vs,(v.sub σ).sub τ=v)->Tm.cJ (vs.map<|Tm.sub σ) (Tm.subs σ l)=((Tm.cJ vs l).1.map<|Tm.sub σ,(Tm.cJ vs l).2)/\∀v∈(Tm.cJ vs l).1,(v.sub σ).sub τ=v) (λx l J vs m hp g=>by
   cases q:isQ x with
   |true=>
    rw[KP (Te m q hp),KP (m.fg.trans q)];by_cases j:Tm.nd x l∈vs
    .rw[if_pos j,if_pos<|(MX g hp).mpr j,idx_map vs _ g hp];exact⟨rfl,g⟩
    .rw[if_neg j,if_neg λh=>j<|(MX g hp).mp h,au,cb];calc⟨rfl,BO.mpr ⟨g,fa hp dF⟩⟩
   |false=>
    rw[FS m.fg q] at hp|-;rw[FS (by rw[Tm.EX];calc(Ka _).trans m.fg) q] at hp;have I:¬isQ x=true:=λh=>ek<|q.symm.trans h;calc aw (J vs (λu r=>m.kt r) (Tm.nd.inj hp).2 g) λz C=>?_;rw[Gh I,Gh I,z];calc⟨rfl,C⟩)
  (λvs Z Z g=>⟨rfl,g⟩)
  λt L D H vs m hp g=>aw (dN hp) λN vz=>aw (D vs (m t<|.head _) N g) λz C=>aw (H (t.nm vs).1 (λu r=>m u<|.tail _ r) vz C) λS T=>by calc⟨(YB _ (t.sub σ)<|Tm.subs σ L).trans ?_,T⟩;rw[z,S];rfl).1 p
theorem WV(hm:most<=4)(g:q∈pats most)(j:w∈pats most)(h1:Inst q w)(l:Inst w q):q=w:=ai h1 λσ e1=>ai l λτ e2=>by rw[<-e1] at e2;have h:=(SY (σ:=σ) (τ:=τ) q [] (rB hm g).2.1 e2 dF).1;rw[e1] at h;calc((rB hm g).1.symm.trans (congrArg zi h).symm).trans (rB hm j).1
theorem YZ(G:Good e s)(p:a<s.nodes.length)(hb:b<s.nodes.length)(hm:most<=4)(r:Found s a b most F)(I:∀t,t∈L↔Bo s a b most t)(t:Tm):t∈oA F↔t∈oA L:=by
 unfold oA;rw[gK,gK,JF,JF,I];constructor
 .intro g;calc aw g λh1 z=>?_;have C:=EI G p hb hm r h1;calc⟨C,λo J q=>aw q λl hi=>?_⟩;have D:=(I o).mp J;calc ai (JA G p hb hm r D) λm g=>aw g λj h=>?_;by_cases H:m=t
  .clear z g h1;subst H;exact l<|WV hm D.1 C.1 h hi
  .exact z m j ⟨H,hi.trans h⟩
 .intro g;calc aw g λh1 z=>ai (JA G p hb hm r h1) λm g=>aw g λj h=>?_;have:m=t:=gX λl=>z m ((I m).mpr<|EI G p hb hm r j) ⟨l,h⟩;clear g h h1;subst this;calc⟨j,λo J hi=>z o ((I o).mpr<|EI G p hb hm r J) hi⟩
noncomputable def rE(t:Tm):Nat×List Str×List Nat:=(t.rows.length,t.rows.map Tm.str,t.rows.map λr=>r.kids.length)
theorem Mk:∀m:Fin 5,((pats m.val).map rE).Nodup:=by decide+kernel
theorem Th{l:List Tm}{q w:Tm}(h:(l.map rE).Nodup)(g:q∈l)(j:w∈l)(he:rE q=rE w):q=w:=ai (Eu (λZ=>q) (tab:=l.map λt=>(rE t,t))<|(bg ..).symm▸h) λσ hs=>(hs _<|cL g).symm.trans<|(congrArg σ he).trans<|hs _<|cL j
theorem NB{α j l:Type}{g:α->j}{f:j->l}(w:∀x y,f x=f y->x=y){a b:List α}(h:(a.map λr=>f<|g r)=b.map λr=>f<|g r):a.map g=b.map g:=(Oz w).mp<|(bg ..).trans<|h.trans (bg ..).symm
noncomputable def nk(t:Tm):List Nat:=t.rows.map λr=>r.kids.length
theorem Qr{t u:Tm}(h:je t=je u):rE t=rE u:=by have h:=dN h;have k:=dN h.2;unfold rE;rw[lc.mp h.1,NB (λZ Z=>Dt.str.inj)<|Dt.tup.inj k.1,NB (f:=λn:Nat=>Dt.int n) (g:=λr:Tm=>r.kids.length) (λZ Z=>lc.mp) (Dt.tup.inj (dN k.2).1)]
noncomputable def nD(t:Tm):List Dt:=[.int t.rows.length,.tup<|t.rows.map λr=> .str r.str,.tup (t.rows.map λr=> .int (r.kids.length+1:Nat))]
theorem Yr(a b:List Nat):cV (a.map λn=>Dt.int (n+1:Nat)) (b.map λn=>Dt.int (n+1:Nat))=cV (a.map λn=>Dt.int (n:Nat)) (b.map λn=>Dt.int (n:Nat)):=by
 induction a generalizing b with
 |nil=>cases b<;>calc rfl
 |cons x a g=>cases b with
  |nil=>calc rfl
  |cons y b=>
   rw[dK,dK,dK,dK,kW,kW];by_cases h:x=y
   .rw[if_pos (by rw[h]),if_pos<|by rw[h],g b]
   .rw[if_neg λk=>h<|qy<|lc.mp k,if_neg λk=>h (lc.mp k)];calc decide_eq_decide.mpr<|wN.trans<|GJ.trans wN.symm
theorem Tu(a b:List Nat):iI (.tup<|a.map λn=>Dt.int (n+1:Nat)) (.tup<|b.map λn=>Dt.int (n+1:Nat))=iI (.tup<|a.map λn=>Dt.int (n:Nat)) (.tup<|b.map λn=>Dt.int (n:Nat)):=Yr a b
theorem IP(a b c x y z:Dt):cV [a,b,c] [x,y,z]=if a=x then(if b=y then(if c=z then false else iI c z) else iI b y) else iI a x:=by rw[kW,kW,kW];rfl
theorem Vf(t u:Tm):cV (nD t) (nD u)=cV (je t) (je u):=by
 have m (g:Nat->Dt) (t:Tm):(t.rows.map λr=>g r.kids.length)=(nk t).map g:=(bg ..).symm;unfold nD je;rw[IP,IP,m λn=> .int (n+1:Nat),m λn=> .int (n+1:Nat),m λn=> .int (n:Nat),m (λn=> .int (n:Nat))];by_cases h:nk t=nk u
 .rw[h,if_pos rfl,if_pos rfl]
 .rw[if_neg λk=>h<|(Oz λZ Z k=>qy<|lc.mp k).mp<|Dt.tup.inj k,if_neg λk=>h<|(Oz λZ Z=>lc.mp).mp<|Dt.tup.inj k,Tu (nk t) (nk u)]
theorem YJ(h:cN t):mw (nD t)/\Dt.keys (nD t)=true/\Dt.dG (nD t)<=20:=Lq h _
theorem Jb(G:Good e s){a b most:Nat}(N:a<s.nodes.length)(hb:b<s.nodes.length)(hm:most<=4){F S L D:List Tm}(C:Found s a b most F)(H:S.Perm F)(hs:S.Pairwise λt u=>cV (je u) (je t)=false)(I:∀t,t∈L↔Bo s a b most t)(p:L.Nodup)(J:D.Perm<|oA L)(hd:D.Pairwise λt u=>cV (nD u) (nD t)=false):oA S=D:=by have j:S.Nodup:=H.nodup_iff.mpr C.1;have q:Found s a b most S:=⟨j,λt=>by rw[H.mem_iff];calc C.2 t⟩;have hp:(oA S).Perm D:=((List.perm_ext_iff_of_nodup (j.sublist yM)<|p.sublist yM).mpr λt=>YZ G N hb hm q I t).trans J.symm;have g:∀t∈D,t∈pats most:=λt r=>((I t).mp (gK.mp<|J.mem_iff.mp r).1).1;calc hp.eq_of_pairwise (le:=λt u=>cV (je u) (je t)=false) (λt u r P h1 T=>?_) (hs.sublist yM) (hd.imp λh=>by rw[Vf] at h;calc h);have l:=g t<|hp.mem_iff.mp r;have m:=g u P;calc Th (Mk ⟨most,(aB 484241965809) hm⟩) l m<|Qr<|gX λz=>?_;calc(Am.kR _ _ ((DN (rB hm l).2.1.1).1) ((DN (rB hm m).2.1.1).1) z).elim (λh=>vj<|h.symm.trans T) λh=>vj<|h.symm.trans h1
end
section
variable{c:Cx}{k:Nat}{V:Env}{O ah:al}{ρ:az}{CH CB CU CC:Addr}{a:cg}{s:Hp}{e:Nat}
structure jH(CH CB CU:Addr)(a:cg)(s:Hp)(nd bl:Addr)(G:List cq)(i:Nat)(O:al):Prop where
 hp:bN CH CB CU a O s
 aM:O nd=some (.aM<|G.map cq.row)
 ls:∀g∈G,O g.ad=some (.lst<|g.xs.map λn=> .d n.dt)
 keys:(G.map cq.key).Nodup
 tF:(G.map cq.ad).Nodup
 oj:∀g∈G,g.ad≠nd/\g.ad≠bl/\g.ad∉a.own s
 pW:nd∉a.own s/\nd≠bl
 ox:O bl=some (.lst [])
 tv:bl∉a.own s
 mem:∀g∈G,∀n,n∈g.xs↔∃j m,j<i/\s.nodes[j]? =some m/\root s.par j=g.key/\n=gs s.par m
 all:∀j,j<i->∃g∈G,g.key=root s.par j
 len:∀g∈G,g.xs.length<=i
 kl:∀g∈G,g.key<s.nodes.length/\root s.par g.key=g.key
variable{nd bl:Addr}{G:List cq}{i:Nat}
theorem jH.same(X:jH CH CB CU a s nd bl G i O)(h:Kp O ah):jH CH CB CU a s nd bl G i ah:={X with hp:=X.hp.same λb hb=>h b<|by calc ai (X.hp.some hb) λm e=>?_;rw[e];simp,aM:=(h _<|by rw[X.aM];simp).trans X.aM,ls:=λg hg=>(h _<|by rw[X.ls g hg];simp).trans<|X.ls g hg,ox:=(h _<|by rw[X.ox];simp).trans X.ox}
theorem jH.RZ(X:jH CH CB CU a s nd bl G i O)(m:s.nodes.length<=7):G.length<=7:=by
 have:=Ia X.keys (n:=s.nodes.length) λx l=>by calc ai (bb.mp l) λg h=>aw h λhg j=>?_;clear h;clear l;subst j;exact(X.kl g hg).1
 rw[au] at this;calc(aq 573881192493617) m this
theorem Vy(h:dH (G.map cq.row) (.int (r:Nat))=some p):∃g∈G,g.key=r/\p= .ref g.ad:=by unfold dH at h;calc ai (jX.mp h) λy j=>aw j λhy l=>?_;clear j;subst l;have h1:=tO hy;have m:=wF hy;calc ai (bb.mp h1) λg j=>?_;have hg:=j.1;have l:=j.2;clear j;clear hy h1 h;subst l;calc⟨g,aR hg (lc.mp<|of_decide_eq_true m) rfl⟩
theorem jH.new(X:jH CH CB CU a s nd bl G i O)(C:O l=none)(N:Dt.int (r:Nat)∉(G.map cq.row).map (·.1))(hk:r<s.nodes.length/\root s.par r=r):jH CH CB CU a s nd bl (G++[⟨r,l,[]⟩]) i (upd (upd O l<|.lst []) nd<|.aM<|(G++[(⟨r,l,[]⟩:cq)]).map cq.row):=by
 have D:l≠nd:=λe=>by rw[e,X.aM] at C;exact cU C
 have H:l≠bl:=λe=>by rw[e,X.ox] at C;exact cU C
 have I:r∉G.map cq.key:=λhm=>N (by calc ai (bb.mp hm) λg p=>?_;have hg:=p.1;have L:=p.2;clear p;clear hk hm N;subst L;calc bb.mpr ⟨g.row,cL hg,rfl⟩);have J:∀g∈G,g.ad≠l:=λg hg e=>by have:=X.ls g hg;rw[e,C] at this;exact bp this
 refine{hp:=X.hp.same λb hb=>(aC λe:b=nd=>X.pW.1<|e▸hb).trans (aC λe:b=l=>X.hp.fresh C<|e▸hb),aM:=bo,ls:=λg hg=>?_,keys:= ?_,tF:= ?_,oj:=λg hg=>?_,pW:=X.pW,ox:=(aC<|cI X.pW.2).trans<|(aC<|cI H).trans X.ox,tv:=X.tv,mem:=λg hg n=>?_,all:=λj hj=>?_,len:=λg hg=>?_,kl:=λg hg=>?_}
 .rcases ca.mp hg with h|h
  .exact(aC (X.oj g h).1).trans<|(aC<|J g h).trans<|X.ls g h
  .rw[ci.mp h];exact(aC D).trans bo
 .rw[cb];exact kg X.keys I
 .rw[cb];exact kg X.tF λh=>ai (bb.mp h) λg q=>J g q.1 q.2
 .rcases ca.mp hg with h|h
  .exact X.oj g h
  .rw[ci.mp h];exact aR D H<|X.hp.fresh C
 .rcases ca.mp hg with h|h
  .exact X.mem g h n
  .rw[ci.mp h];exact⟨cX,λz=>aE z λj m y=>ai (X.all j y.1) λP q=>absurd (bb.mpr ⟨P,q.1,q.2.trans y.2.2.1⟩) I⟩
 .refine ai (X.all j hj) λg p=>?_;have hg:=p.1;exact⟨g,dh _ hg,p.2⟩
 .rcases ca.mp hg with h|h
  .exact X.len g h
  .rw[ci.mp h];exact cO _
 .rcases ca.mp hg with h|h
  .exact X.kl g h
  .rw[ci.mp h];calc hk
noncomputable def cq.tell(r:Nat)(n:Nd)(g:cq):cq:=if g.key=r then{g with xs:=g.xs++[n]} else g
theorem vI{g:cq}:(g.tell r n).key=g.key:=by unfold cq.tell;split<;>rfl
theorem zE{g:cq}:(g.tell r n).ad=g.ad:=by unfold cq.tell;split<;>rfl
theorem jH.app(X:jH CH CB CU a s nd bl G i O){g:cq}(hg:g∈G)(hm:s.nodes[i]? =some m)(T:root s.par i=g.key):jH CH CB CU a s nd bl (G.map<|cq.tell g.key<|gs s.par m) (i+1) (upd O g.ad<|.lst<|(g.xs++[gs s.par m]).map λn=> .d n.dt):=by
 have U:=X.oj g hg;have S:(G.map<|cq.tell g.key<|gs s.par m).map cq.ad=G.map cq.ad:=by rw[bg];exact gZ λv Z=>zE
 have H:(G.map<|cq.tell g.key<|gs s.par m).map cq.key=G.map cq.key:=by rw[bg];exact gZ λv Z=>vI
 have uniq:∀h∈G,h.key=g.key->h=g:=λh hh e=>by
  calc ai (gk.mp hh) λi hi=>ai (gk.mp hg) λj hj=>ai (dJ.mp hi) λI J=>?_;calc ai (dJ.mp hj) λL r=>?_;have:i=j:=by calc(tW (h₀:=by simpa using I) (h₁:=by simpa using L) X.keys).mp ?_;rw[nY,nY,J,r,e]
  clear r;subst this;rw[hi] at hj;exact gn hj
 have N:∀h∈G,h.ad=g.ad->h=g:=λh hh e=>by
  calc ai (gk.mp hh) λi hi=>ai (gk.mp hg) λj hj=>ai (dJ.mp hi) λI J=>?_;calc ai (dJ.mp hj) λL r=>?_;have:i=j:=by calc(tW (h₀:=by simpa using I) (h₁:=by simpa using L) X.tF).mp ?_;rw[nY,nY,J,r,e]
  clear r;subst this;rw[hi] at hj;exact gn hj
 refine{hp:=X.hp.same λb hb=>aC λe:b=g.ad=>U.2.2<|e▸hb,aM:= ?_,ls:=λh hh=>?_,keys:=by rw[H];calc X.keys,tF:=by rw[S];calc X.tF,oj:=λh hh=>?_,pW:=X.pW,ox:=(aC<|cI U.2.1).trans X.ox,tv:=X.tv,mem:=λh hh n=>?_,all:=λj hj=>?_,len:=λh hh=>?_,kl:=λh hh=>?_}
 .rw[aC (cI U.1),X.aM,bg];congr 2;calc gZ λv Z=>?_;show v.row=(v.tell g.key<|gs s.par m).row;unfold cq.row;rw[vI,zE]
 .refine ai (bb.mp hh) λw l=>?_;have q:=l.1;have p:=l.2;clear l;subst p;rw[zE];by_cases e:w.key=g.key
  .obtain rfl:=uniq w q e;unfold cq.tell;rw[bo,if_pos rfl]
  .rw[aC (λh=>e<|by rw[N w q h])];unfold cq.tell;rw[if_neg e];exact X.ls w q
 .refine ai (bb.mp hh) λw l=>aw l λq p=>?_;clear l;clear hh;subst p;rw[zE];exact X.oj w q
 .refine ai (bb.mp hh) λw l=>?_;have q:=l.1;have p:=l.2;clear l;clear hh;subst p;rw[vI];have P:=X.mem w q n;unfold cq.tell;by_cases e:w.key=g.key
  .rw[if_pos e];show n∈w.xs++[gs s.par m]↔_;rw[ca,P,ci];constructor
   .rintro (⟨j,m',h1,z,C,D⟩|h)
    .exact bv j m'<|cx (tA h1) z C D
    .exact bv i m<|cx (sO) hm (by rw[T,e]) h
   .intro l;calc aE l λj m' p=>bV p λh1 z C D=>?_;by_cases hj:j=i
    .clear P X T l h1;subst hj;rw[hm] at z;cases z;exact .inr D
    .exact .inl<|bv j m'<|cx (yw h1 hj) z C D
  .rw[if_neg e,P];constructor
   .intro l;exact aE l λj m' p=>bV p λh1 z C D=>bv j m'<|cx (tA h1) z C D
   .intro l;calc aE l λj m' p=>bV p λh1 z C D=>?_;exact bv j m'<|cx (yw h1 λhj=>e<|by rw[<-C,hj,T]) z C D
 .by_cases h:j=i
  .exact⟨g.tell g.key<|gs s.par m,cL hg,by rw[vI,h,T]⟩
  .refine ai (X.all j<|yw hj h) λw l=>?_;have q:=l.1;exact⟨w.tell g.key<|gs s.par m,cL q,by rw[vI,l.2]⟩
 .refine ai (bb.mp hh) λw l=>aw l λq p=>?_;clear l;clear hh;subst p;have:=X.len w q;unfold cq.tell;split
  .show(w.xs++[gs s.par m]).length<=_;rw[bA,gG];exact yx this
  .exact yB this
 .refine ai (bb.mp hh) λw l=>aw l λq p=>?_;clear l;clear hh;subst p;rw[vI];calc X.kl w q
theorem jH.ZH(X:jH CH CB CU a s nd bl G s.nodes.length O)(C:Good e s):rl s (G.map λg=>(g.key,g.xs)):=by
 have hk:(G.map λg=>(g.key,g.xs)).map (·.1)=G.map cq.key:=by rw[bg];rfl
 have q:∀g∈G,∀n,n∈g.xs↔fx s g.key n:=λg hg n=>by rw[X.mem g hg n];exact exists_congr λj=>exists_congr λm=>⟨λy=>y.2,λy=>⟨(dJ.mp y.1).1,y⟩⟩
 have ok:sV (G.map λg=>(g.key,g.xs)):=by
  refine⟨by rw[hk];calc X.keys,λp hp=>?_,λp hp n D=>?_,λp hp n D x I=>?_⟩
  .refine ai (bb.mp hp) λg h=>aw h λhg l=>?_;clear h;clear hp;subst l;show g.xs.length<=7;exact(aq 573881192493617) C.nz<|X.len g hg
  .refine ai (bb.mp hp) λg h=>aw h λhg l=>?_;clear h;clear hp;subst l;have:=(C.wh<|(q g hg n).mp D).ok;exact⟨this.1.facts.1,this.2⟩
  .refine ai (bb.mp hp) λg h=>?_;have hg:=h.1;have l:=h.2;clear h;clear hp;subst l;have z:=fx.Ds C ((q g hg n).mp D) x I;rw[hk];exact ai (X.all x z.1) λJ h=>aw h λH e=>bb.mpr ⟨J,H,by rw[e,z.2]⟩
 calc⟨ok,λr z n=>?_⟩;calc ai (bb.mp<|(FK ok.nd z).1) λg h=>?_;have hg:=h.1;have e:=h.2;have e1:g.key=r:=congrArg CO e;have e2:g.xs=jq (G.map λg=>(g.key,g.xs)) r:=congrArg zi e;rw[<-e2,<-e1];calc q g hg n
end
section
variable{c:Cx}{k:Nat}{V:Env}{O ah:al}{ρ:az}{CH CB CU CC:Addr}{a:cg}{s:Hp}{e:Nat}
structure Wl(c:Cx)(CH CB CU CC:Addr):Prop where
 w:Wc c CH CB CU CC
 gH:c.mg (ak "Heap")=some (.ref CH)
 gB:c.mg (ak "Bank")=some (.ref CB)
 gU:c.mg (ak "Unions")=some (.ref CU)
 gC:c.mg (ak "HeapCommon")=some (.ref CC)
 iH:∃f,iY c CH (ak "__init__") f/\Fn c f (bj (aK 20) 0)
 iB:∃f,iY c CB (ak "__init__") f/\Fn c f (bj (aK 11) 0)
 iU:∃f,iY c CU (ak "__init__") f/\Fn c f (bj (aK 18) 0)
 iC:∃f,iY c CC (ak "__init__") f/\Fn c f (bj (aK 16) 0)
 qL:Glob c (ak "_law_figure")<|aK 22
 hp:Glob c (ak "_law_heap")<|aK 23
 tr:Glob c (ak "_law_trees")<|aK 24
 tJ:Glob c (ak "_law_spelled")<|aK 25
 pl:Glob c (ak "_law_places")<|aK 26
 ins:Glob c (ak "_law_is_instance")<|aK 27
 rows:Glob c (ak "_law_rows")<|aK 28
 rank:Glob c (ak "_law_rank")<|aK 29
 lst:fJ c "list"
 dict:fJ c "dict"
noncomputable def ku(s:Hp)(x y:Nat)(t:Tm):Bool:=@decide ((∃g,Mt s g x t)/\∃g,Mt s g y t)<|Gu _
theorem zO:ku s x y t=true↔(∃g,Mt s g x t)/\∃g,Mt s g y t:=by unfold ku;calc @decide_eq_true_iff _<|Gu _
theorem Ue(n:Nat):pats (n+1)=pats n++(trees<|n+1).flatMap λt=>(t.sp 0).map (·.1):=by unfold pats;rw[Cd,wy,tT,yP,ea]
theorem Rj(h:m<=4):(pats m).Nodup:=by calc(List.Pairwise.imp (λ{a b} h e=>h<|by rw[e]) (OI.mp<|Mk ⟨m,(aB 484241965809) h⟩):List.Pairwise (·≠·)<|pats m)
theorem Xi:qk [] [(sK,PV.d<|.lst<|cells.map .int),(qN,PV.d<|.int 0)]=gg cells 0:=by show dput (dput [] sK _) qN _=_;unfold dput gg;simp[k_ne.symm,k_ne]
theorem XK(h:n<=4):(trees n).length<=100:=uG ⟨n,(aB 484241965809) h⟩
theorem KY{o dx:Addr}{B:Nat}(X:Cb CH CB CU CC a s o dx O B)(l:jp c CC){x:Str}{st:Stmt}(M:df c CC x st)(h1:x≠ak "heap"/\x≠ak "known"){P:Value->List PV->Prop}(p:∀f,Fn c f st->P (.ref f) [.ref o]):nL c (.ref o) x O P:=by calc aE X.ns λn σ g=>bV g λZ h Z j=>?_;obtain⟨f,hm,hk,m⟩:=M;calc yp X.ob h (j x h1.1 h1.2) l hm<|p f m
theorem TB:Bo s x y most t↔Bo s y x most t:=⟨λz=>⟨z.1,z.2.2,z.2.1⟩,λz=>⟨z.1,z.2.2,z.2.1⟩⟩
theorem YI:Agree σ []:=λZ h=>by exact cX h
theorem Yi(W:Wl c CH CB CU CC)(F:Fn c f<|aK 30){is:List Int}(e0:is.length<=1000){Q:PV->al->Prop}(q:∀ah,Q (.d<|.bool true) ah):aW c (k+40) (.ref f) [.d (.lst<|is.map .int)] O Q:=by
 have N:=W.w.w.len;have f6:=W.w.w.tup;have o5:=W.lst;calc ai W.iH λfH p=>?_;have iH:=p.1;have FH:=p.2;calc ai W.iB λfB p=>?_;have iB:=p.1;have FB:=p.2;calc ai W.iU λfU p=>?_;have iU:=p.1;have FU:=p.2;calc ai W.iC λfC p=>?_;have iC:=p.1;have FC:=p.2;calc cY F rfl λV a3=>aU<|cz<|Na (by rfl) (by rfl) (λh=>nomatch h) (by decide)<|Fa<|JZ ⟨_,rfl,?_⟩;lk;calc Xz (by unfold small;rw[au];calc iN e0) ?_;lk;refine UE (by unfold small;calc aL (Op _ _)<|by rw[au];calc iN e0)<|Fa<|JZ ⟨_,rfl,xF<|KV ⟨lb rfl,λe he=>?_,λt ht=>?_⟩⟩
 .rcases dD.mp he with rfl|he
  .exact⟨El,qe⟩
  .rw[ci.mp he];exact⟨Dx,qe⟩
 generalize f7:is.take 60=cells;have c1:cells.length<=1000:=by rw[<-f7];have:=Op 60 is;exact(aq 570582654464561) e0 this
 have l5:qk [] [(Dt.str<|ak "cells",PV.d<|Dt.lst<|(is.map Dt.int).take 60),(Dt.str<|ak "at",PV.d<|Dt.int 0)]=gg cells 0:=by rw[<-List.map_take,f7];exact Xi
 rw[l5];have f8:=bo (O:=O) (a:=t) (m:= .aM<|gg cells 0);generalize upd O t (.aM<|gg cells 0)=p3 at f8|-;tm_at"1";calc aU<|cz ?_;calc eh W.hp λ_ _=>?_;lk;calc aW.up (k:=10) (WP (k:=0) W.w.w W.w.mA W.qL W.gH W.gB W.gU iH FH iB FB iU FU ‹_› f8 c1 λp4 a s nl n ns e L2 G T a8 a9 hn=>DL EK (by rfl) (by rfl)<|vy (by rfl) ?_)<|gY (by decide);tm_at"1";calc vy (by rfl) ?_;tm_at"1";calc FV<|aU<|yz (names:=[ak "one",ak "other"]) (by rfl) ((wY a3).trans rfl) (by rw[a3];rfl)<|cT<|ba<|jA (λ_ _=>by rfl) ?_;lk;calc eh W.qL λ_ _=>?_;lk;calc jm L2.nm (by unfold small;rw[au];calc(aB 569483160848881) a8 a9) ?_;rw[au];lk;calc aW.up (k:=1) (pK (k:=0) W.qL N c1 ‹_› L2 ((aB 139302408177) hn) (m:=(ns.length:Nat)) ((aB 0x8f01f112f218209f1) a8 a9) λi1 c2 f9 L3=>?_)<|gY (by decide);have d2:i1<ns.length:=xp f9;calc li L3.nm (mf) ((aq 0x8f20f01f1238209f308f01f301f1) a8 a9 f9) (xv d2)<|ba<|jA (λ_ _=>by rfl) ?_;lk;calc eh W.qL λ_ _=>?_;lk;calc jm L3.nm (by unfold small;rw[au];calc(aB 569483160848881) a8 a9) ?_;rw[au];lk;calc aW.up (k:=1) (pK (k:=0) W.qL N c1 ‹_› L3 ((aB 139312893937) hn) (m:=(ns.length:Nat)) ((aB 0x8f01f112f218209f1) a8 a9) λi2 g0 g9 L4=>?_)<|gY (by decide);have d4:i2<ns.length:=xp g9;calc li L4.nm (mf) ((aq 0x8f20f01f1238209f308f01f301f1) a8 a9 g9) (xv d4) ?_;have hx:=L4.all _<|gJ d2;have hy:=L4.all _<|gJ d4;generalize ns[i1]=x at hx|-;generalize ns[i2]=y at hy|-;calc iT ⟨lb rfl,.inl ⟨[.int (x:Nat),.int (y:Nat)],rfl,_,As,rfl,aU<|yz (names:=[ak "most",ak "nodes",ak "both"]) (by rfl) ((wY a3).trans rfl) (by rw[a3];rfl)<|cT<|ba<|iD ?_⟩⟩;lk;calc eh W.qL λ_ _=>?_;lk;calc aW.up (k:=1) (pK (k:=0) W.qL N c1 ‹_› L4 ((aB 35662333087729) hn) ((dL 2402545967)) λi3 h0 h1 L5=>?_)<|gY (by decide);lk;calc lG λnd h2=>ba<|iV ?_;lk;calc⟨lb rfl,λbl l6=>?_⟩;have h3:=(dE l6);have h4:=h3.1;have I:=h3.2;have X0:jH CH CB CU a s nd bl [] 0 (upd (upd h0 nd<|.aM []) bl<|.lst []):={hp:=L5.hp.same λb hb=>(aC λe:b=bl=>L5.hp.fresh I<|e▸hb).trans (aC λe:b=nd=>L5.hp.fresh h2<|e▸hb),aM:=(aC<|cI h4).trans bo,ls:=λg h=>(cX h),keys:=hX,tF:=hX,oj:=λg h=>(cX h),pW:=⟨L5.hp.fresh h2,cI h4⟩,ox:=bo,tv:=L5.hp.fresh I,mem:=λg h=>(cX h),all:=λj h=>absurd h<|Hm _,len:=λg h=>(cX h),kl:=λg h=>(cX h)};generalize upd (upd h0 nd<|.aM []) bl (.lst [])=p5 at X0|-;have h7:=G.nz;have hM:∃most:Nat,(3:Int)+(i3:Int)=(most:Nat)/\most<=4:=⟨3+i3,(aB 0x16f01f410cf1ef01f11df),(aB 0x202f410cf08f33f01f1) h1⟩;calc ai hM λmost p=>?_;have h8:=p.1;have Z:=p.2;rw[h8];calc iT ⟨lb rfl,.inr ⟨_,EK,rfl,aU<|gD (λ_=>rfl)<|mV (by rfl) (by rfl)<|gO (by tm_at"k") (by decide) W.w.mA.1 W.w.mA.2 ⟨_,rfl,.ty,ba ?_⟩⟩⟩;tm_at"m";lk;calc eF X0.hp.at_ W.w.w.H.cls W.w.w.zC (by decide+kernel) λg hg=>?_;lk;calc aW.up (k:=2) (Eo (k:=0) W.w.w.H W.w.w.B N W.w.w.bsize hg X0.hp.at_ X0.hp.bk.at_ (qd h7)<|iT<|xj ((aB 0xaf0ef17f01f10ef01f125f17f209f1) h7) ?_)<|gY (by decide);rw[show((s.nodes.length:Int)).toNat=s.nodes.length from rfl];refine DH (n:=s.nodes.length) [ak "n",ak "node"] (λi ah=>∃Gr:List cq,jH CH CB CU a s nd bl Gr i ah) rfl ⟨[],X0⟩ ?_ ?_
 .intro i ah a0 Q1 S p J l7;calc ai p λGr X=>?_;have r1:=J.tr (x:=ak "heap") rfl rfl
  ·
   have c3:i<s.par.length:=tR S G.pl.symm;have b3:s.par.length<=1000:=aL (fO G.pl)<|aL h7 (by decide);have c4:=G.kids S;calc aE X.hp.at_.ns λbF σ p=>bV p λl8 e4 h9 _=>?_;tm_at"1";calc aU<|cz ?_;tm_at"m";refine tm (by rfl) ?_
   (first|calc bJ r1 ?_|calc cf r1 ?_)
   calc⟨_,_,_,_,_,_,rfl,X.hp.at_.ob,l8,e4,rfl,W.w.w.H.cls,W.w.w.H.vG,uK X.hp.bk.at_ W.w.w.B.cls W.w.w.JD (by decide+kernel) (by decide+kernel) (by decide+kernel) (by decide+kernel) λg hg=>?_⟩;lk;calc aW.up (k:=1) (C8 (k:=0) W.w.w.B hg X.hp.bk.at_ S (aL h7<|by decide) ?_)<|gY (by decide);tm_at"1";calc aU<|eG ?_;tm_at"m";tm_at"m"
   (first|calc bJ (J.tr rfl rfl) ?_|calc cf (J.tr rfl rfl) ?_)
   calc vU X.aM yH BG<|ba ?_;tm_at"m"
   (first|calc bJ r1 ?_|calc cf r1 ?_)
   calc eF X.hp.at_ W.w.w.H.cls W.w.w.kQ (by decide+kernel) λg hg=>?_;lk;calc aW.up (k:=2) (ot (k:=0) W.w.w.H W.w.w.U W.w.w.kX hg X.hp.at_ X.hp.un.at_ G.cH c3 b3<|ba<|iV ?_)<|gY (by decide);lk;calc⟨lb rfl,λl hl=>?_⟩;have X1:=X.same (ah:=upd ah l<|.lst []) λb hb=>aC λe:b=l=>hb<|e▸hl;have l9:=X.RZ h7;refine iT<|yu X1.aM ⟨rb,qP⟩ (by unfold small;rw[au];calc(ax 569484564892145) S l9) λp' c5 C=>?_
   obtain⟨G1,g,c6,m0,rfl,X2⟩:∃(G1:List cq) (g:cq),g∈G1/\g.key=root s.par i/\p'= .ref g.ad/\jH CH CB CU a s nd bl G1 i c5:=by
    rcases C with⟨hp,rfl⟩|⟨hn,rfl,rfl⟩
    .exact ai (Vy hp) λg p=>aN p λhg e1 e2=>bv Gr g<|cx hg e1 e2 X1
    .refine bv (Gr++[⟨root s.par i,l,[]⟩]) ⟨root s.par i,l,[]⟩<|cx (cn _<|.head _) rfl rfl ?_;have:=X.new hl hn ⟨by rw[<-G.pl];calc lN G.cH c3,by rw[nN G.cH (lN G.cH c3),if_pos (qZ G.cH i c3)]⟩;rw[cb] at this;exact this
   calc ij (X2.ls g c6) lR mY<|ba<|iD<|cT<|ba<|jA (λ_ _=>by rfl) ?_;lk;calc eY ((aq 0xef12f12f731) S) ((aq 9835728009009) S) rfl ?_;lk;calc⟨lb rfl,.inl ⟨[.str s.nodes[i].op],rfl,?_⟩⟩;lk;calc gN (by rw[a3];rfl) (λ_=>rfl)<|oq ?_;lk;refine il (l:= .str s.nodes[i].op::s.nodes[i].kids.map λi=> .int (i:Nat)) (lb rfl) (by unfold small;rw[bP,au];calc(ax 569527514563825) S c4)<|⟨_,rfl,mP (s.nodes[i].kids.map λj=> .int (j:Nat)) (vA s.par) (by rfl) (by unfold small;rw[au];calc(ax 569484564890865) S c4) (λcenv hc=>by tm_at"k") ?_ ?_⟩
   .refine λcenv o6 d p6 T' hd hm=>ai (bb.mp hm) λj p=>?_;have hj:=p.1;have a5:=p.2;clear p;clear hm;subst a5;tm_at"m";calc cf (by rw[T' _ (by rfl)];calc r1)<|eF X2.hp.at_ W.w.w.H.cls W.w.w.kQ (by decide+kernel) λg' m1=>ba ?_;tm_at"c";lk;exact aW.up (k:=2) (ot (k:=0) W.w.w.H W.w.w.U W.w.w.kX m1 X2.hp.at_ X2.hp.un.at_ G.cH (G.below S j hj) b3 ⟨rfl,rfl⟩)<|gY<|by decide
   lk;calc pX (by unfold small;rw[au,au];calc(ax 569484564890865) S c4)<|qi (by unfold small;rw[au,au];simp;calc(ax 0x205f418753204f1) S c4) ?_;rw[show Dt.tup ([Dt.str s.nodes[i].op]++qB (vA s.par) (qB (λj:Nat=>Dt.int (j:Int)) s.nodes[i].kids))=(gs s.par s.nodes[i]).dt by unfold gs Nd.dt;rw[bg,bg];rfl];have m2:=X2.len g c6;calc iT<|lF (X2.ls g c6) (by unfold small;rw[au];calc aL m2<|aL (lV S)<|aL h7<|by decide) ?_;have X3:=X2.app c6 (cR S) m0.symm;rw[cb] at X3;exact cE<|l7 _ _ ⟨_,X3⟩<|(J.set rfl).set rfl
 .intro ah a0 p J;refine ai p λGr X=>A3 (x:=ak "nodes") (J.tr rfl rfl) X.aM X.ls X.tF (λg hg=>(X.oj g hg).1) λc5 i0=>?_
  have d5:∀b,(∀g∈Gr,g.ad≠b)->b∉Gr.map cq.ad:=λb h hm=>by exact ai (bb.mp hm) λg p=>aw p λhg e=>h g hg e
  have m3:bN CH CB CU a c5 s:=X.hp.same λb hb=>i0 b (λe=>X.pW.1<|e▸hb)<|d5 b λg hg e=>(X.oj g hg).2.2<|e▸hb;have i4:c5 bl=some (.lst []):=(i0 bl (cI X.pW.2)<|d5 bl λg hg e=>(X.oj g hg).2.1 e).trans X.ox;have m4:bl∉a.own s:=X.tv;have NS:=X.ZH G;have i5:∀z,z<s.nodes.length->root s.par z∈(Gr.map λg=>(g.key,g.xs)).map (·.1):=λz hz=>by calc ai (X.all z hz) λg p=>?_;have hg:=p.1;have e:=p.2;rw[bg];exact bb.mpr ⟨g,hg,e⟩
  have c7:=i5 x hx;have c8:=i5 y hy;generalize (Gr.map λg=>(g.key,g.xs))=nt at NS c7 c8|-;have m5:x<s.par.length:=by rw[G.pl];exact hx
  have m6:y<s.par.length:=by rw[G.pl];exact hy
  have b3:s.par.length<=1000:=by rw[G.pl];exact qd h7
  generalize P:aZ a0 (ak "nodes") (.d<|tB nt)=b0;have u1:b0 (ak "heap")=some (.ref a.h):=by rw[<-P];exact J.tr rfl rfl
  have u2:b0 (ak "nodes")=some (.d<|tB nt):=by rw[<-P];rfl
  have u3:b0 (ak "both")=some (.ref bl):=by rw[<-P];exact J.tr rfl rfl
  have u4:b0 (ak "one")=some (aY x):=by rw[<-P];exact J.tr rfl rfl
  have u5:b0 (ak "other")=some (aY y):=by rw[<-P];exact J.tr rfl rfl
  have u6:b0 (ak "most")=some (aY most):=by rw[<-P];exact J.tr rfl rfl
  clear P;have d6:∀t:Tm,t.rows.length<=4->((t.sp 0).map (·.1)).length<=625:=λt ht=>by rw[au];exact aL (KL t 0 4<|(aB 35387340882673) ht)<|aL (BQ ((dL 122159870)) ht)<|by decide
  refine aU<|gD (λ_=>rfl)<|mV (by rfl) (by rfl)<|gO (by tm_at"k") (by decide) W.w.mA.1 W.w.mA.2 ⟨_,rfl,.ty,ba<|xF<|ba<|iD ?_⟩
  (first|calc bJ u6 ?_|calc cf u6 ?_)
  lk;calc AU ((dL 0xaf0ef17f11f0ef11f25f17f)) ((aq 0xaf0ef17f1ef11f01f10ef1ef11f01f125f17f08f33f01f316f01f11ef01f31df) h1 h8) ?_;rw[O5,hH];refine SJ (n:=most) [ak "many",ak "tree",ak "pattern",ak "met"] (λi ah=>bN CH CB CU a ah s/\ah bl=some (.lst<|((pats i).filter<|ku s (root s.par x)<|root s.par y).map λt=>PV.d t.dt)) rfl ⟨m3,i4⟩ ?_ ?_
  .intro i ah a0 Q2 e5 p J m7;have C:=p.1;have I:=p.2;have b1:i+1<=4:=aL e5 Z
   ·
    have m8:=XK (n:=i+1) b1;have i6:∀t∈trees (i+1),t.rows.length<=4/\cN t:=λt ht=>by have h:=MV b1 ht;exact⟨aL h.1 b1,aL h.1<|nf b1,λr hr=>(h.2 r hr).1⟩
    have i7:=FG ⟨i,fL e5<|nf Z⟩;dsimp only at i7;tm_at"1";calc aU<|gD (λ_=>rfl)<|eJ ?_;calc eh W.tr λ_ _=>?_;lk;refine aW.up (k:=5) (Vu (k:=0) W.tr W.w.mA 4 (i+1) b1 (Pb 1 i) b1 ‹_› (⟨_,rfl,forL (g:=λt:Tm=>PV.d t.dt) [ak "tree",ak "pattern",ak "met"] (λdone ah=>bN CH CB CU a ah s/\ah bl=some (.lst (((pats i++done.flatMap λt=>(t.sp 0).map (·.1)).filter<|ku s (root s.par x)<|root s.par y).map λt=>PV.d t.dt))) (bg ..) ⟨C,by rw[yP,ea];calc I⟩ ?_ ?_⟩))<|gY<|by decide
    .intro done tr i8 ah a0 Q3 hd p a1 m9;have C:=p.1;have I:=p.2;have i9:tr∈trees (i+1):=mid hd
     ·
      have j0:=(i6 tr i9);have e6:=j0.1;have j1:=j0.2;have e7:=jB (l:=done) (g:=λt=>(t.sp 0).map (·.1)) (n:=625) λt ht=>d6 t (i6 t<|yd hd ht).1;tm_at"1";calc aU<|gD (λ_=>rfl)<|eJ ?_;calc eh W.tJ λ_ _=>?_;lk;refine aW.up (k:=6) (Xq (k:=0) (m:=0) W.tJ W.w.mA W.w.w.max 5 tr ‹_› (by have:=Tm.tc tr;calc(aq 576080208409137) e6 this) j1 ((aB 35387340882673) e6) (⟨_,rfl,forL (g:=λu=>PV.d<|vE u) [ak "pattern",ak "met"] (λd3 ah=>bN CH CB CU a ah s/\ah bl=some (.lst (((pats i++(done.flatMap λt=>(t.sp 0).map (·.1))++d3.map (·.1)).filter<|ku s (root s.par x)<|root s.par y).map λt=>PV.d t.dt))) (bg ..) ⟨C,by rw[yU,ea];calc I⟩ ?_ ?_⟩))<|gY<|by decide
      .intro d3 u uW ah a0 Q4 j2 p Y e8;have C:=p.1;have I:=p.2;have r1:=Y.tr (x:=ak "heap") rfl<|a1.tr rfl<|J.tr rfl u1;have r2:=Y.tr (x:=ak "nodes") rfl<|a1.tr rfl<|J.tr rfl u2
       ·
        have n0:u.1∈pats most:=gI.mpr ⟨i,eM.mpr e5,gI.mpr ⟨tr,i9,bb.mpr ⟨u,mid j2,rfl⟩⟩⟩;have j3:=((rB Z n0).2);have j4:=j3.1;have n3:=j3.2;have j5:=Tm.tc u.1;have b2:=aL n3 Z;have j6:d3.length<=625:=aL (ja<|nS j2) (by have h6:=d6 tr e6;rwa [au] at h6);have d7:=ww (ku s (root s.par x)<|root s.par y) (pats i++(done.flatMap λt=>(t.sp 0).map (·.1))++d3.map (·.1));rw[bA,bA,au] at d7;have d8:∀b,ku s (root s.par x) (root s.par y) u.1=b->(pats i++(done.flatMap λt=>(t.sp 0).map (·.1))++(d3++[u]).map (·.1)).filter (ku s (root s.par x)<|root s.par y)=(pats i++(done.flatMap λt=>(t.sp 0).map (·.1))++d3.map (·.1)).filter (ku s (root s.par x)<|root s.par y)++(if b=true then[u.1] else[]):=λb hb=>by rw[cb,<-eK,OB,dK,yU,wC,hb];rfl
        show cW _ _ _ _ _ (.d<|.tup [u.1.dt,.int (u.2:Nat)]) _ _;tm_at"2";calc aU<|pU<|rF<|rP<|lP (by rfl) ?_;calc eh W.pl λ_ _=>?_;refine ba ?_
        (first|calc bJ r2 ?_|calc cf r2 ?_)
        lk;tm_at"m"
        (first|calc bJ r1 ?_|calc cf r1 ?_)
        refine eF C.at_ W.w.w.H.cls W.w.w.kQ (by decide+kernel) λg hg=>ba ?_
        (first|calc bJ (Y.tr rfl<|a1.tr rfl<|J.tr rfl u4) ?_|calc cf (Y.tr rfl<|a1.tr rfl<|J.tr rfl u4) ?_)
        lk;calc aW.up (k:=2) (ot (k:=0) W.w.w.H W.w.w.U W.w.w.kX hg C.at_ C.un.at_ G.cH m5 b3<|ba<|Br<|lG λfa e9=>⟨fa,_,_,rfl,bo,.inr ⟨[],rfl,rfl⟩,?_⟩)<|gY (by decide);rw[yk e9];lk;calc aW.up (k:=6) (Ms (k:=0) (tb:=[]) W.pl N W.w.zip W.dict NS.ok 5 u.1 ‹_› (aL j5<|nf b2) j4 b2 c7 (by simp;calc aL b2<|by decide) hX (iG ?_))<|gY (by decide);lk;calc⟨lb rfl,[],rfl,Iw ⟨_,rfl,?_⟩⟩;have ne:∀l:List Tb,(!(l.map mW).isEmpty)=true↔l≠[]:=λl=>by cases l<;>simp
        have skip:ku s (root s.par x) (root s.par y) u.1=false->bN CH CB CU a ah s/\ah bl=some (.lst (((pats i++(done.flatMap λt=>(t.sp 0).map (·.1))++(d3++[u]).map (·.1)).filter<|ku s (root s.par x)<|root s.par y).map λt=>PV.d t.dt)):=λhb=>⟨C,by rw[d8 false hb];simpa using I⟩;by_cases ha:fF nt u.1 (root s.par x) []≠[]
        .refine cB ((ne _).mpr ha)<|rP<|lP (by rfl) ?_;calc eh W.pl λ_ _=>?_;refine ba ?_
         (first|calc bJ r2 ?_|calc cf r2 ?_)
         lk;tm_at"m"
         (first|calc bJ r1 ?_|calc cf r1 ?_)
         refine eF C.at_ W.w.w.H.cls W.w.w.kQ (by decide+kernel) λg hg=>ba ?_
         (first|calc bJ (Y.tr rfl<|a1.tr rfl<|J.tr rfl u5) ?_|calc cf (Y.tr rfl<|a1.tr rfl<|J.tr rfl u5) ?_)
         lk;calc aW.up (k:=2) (ot (k:=0) W.w.w.H W.w.w.U W.w.w.kX hg C.at_ C.un.at_ G.cH m6 b3<|ba<|Br<|lG λfa e9=>⟨fa,_,_,rfl,bo,.inr ⟨[],rfl,rfl⟩,?_⟩)<|gY (by decide);rw[yk e9];lk;calc aW.up (k:=6) (Ms (k:=0) (tb:=[]) W.pl N W.w.zip W.dict NS.ok 5 u.1 ‹_› (aL j5<|nf b2) j4 b2 c8 (by simp;calc aL b2<|by decide) hX (iG ?_))<|gY (by decide);lk;calc⟨lb rfl,[],rfl,Iw ⟨_,rfl,?_⟩⟩;by_cases hb:fF nt u.1 (root s.par y) []≠[]
         .refine cB ((ne _).mpr hb)<|rH<|cB rfl<|aU<|eG ?_;tm_at"m"
          (first|calc bJ (Y.tr rfl<|a1.tr rfl<|J.tr rfl u3) ?_|calc cf (Y.tr rfl<|a1.tr rfl<|J.tr rfl u3) ?_)
          calc ij I lR mY ?_;lk;calc lF I (by unfold small;rw[au];calc(aV 0x205f124a4531230f3253f5252fa) d7 i7 (aL e7<|nc 625<|aL (ja<|nS hd) m8) j6)<|cE<|cE<|e8 _ _ ⟨C.same λb hb=>aC λe:b=bl=>X.tv<|e▸hb,?_⟩<|(Y.set rfl).set rfl;rw[bo,d8 true (zO.mpr ⟨(zK NS c7).mp ha,(zK NS c8).mp hb⟩)];simp
         .exact cy (qr.mpr λh=>hb<|(ne _).mp h)<|cy rfl<|cE<|cE<|e8 _ _ (skip<|qr.mpr λh=>hb<|(zK NS c8).mpr (zO.mp h).2)<|(Y.set rfl).set rfl
        .exact cy (qr.mpr λh=>ha<|(ne _).mp h)<|cy rfl<|cE<|cE<|e8 _ _ (skip<|qr.mpr λh=>ha<|(zK NS c7).mpr (zO.mp h).1)<|(Y.set rfl).set rfl
      .intro ah a0 p Y;calc aw p λC I=>cE<|m9 _ _ ⟨C,?_⟩<|Y.up rfl<|a1.set rfl;rw[I,wy,tT,yP,ea,<-eK]
    .intro ah a0 p a1;exact aw p λC I=>cE<|m7 _ _ ⟨C,by rw[I,Ue]⟩<|a1.up rfl<|J.set rfl
  .intro ah a0 p J;have C:=p.1;have I:=p.2
   have r1:=J.tr rfl u1;have r3:=J.tr rfl u3;have r4:=J.tr rfl u4;have r5:=J.tr rfl u5;have r6:=J.tr rfl u6;clear u6 J;have f0:((pats most).filter<|ku s (root s.par x)<|root s.par y).Nodup:=(Rj Z).sublist yM;have c9:∀t,t∈(pats most).filter (ku s (root s.par x)<|root s.par y)↔Bo s (root s.par x) (root s.par y) most t:=λt=>by rw[gK,zO];exact uA
   have d0:((pats most).filter<|ku s (root s.par x)<|root s.par y).length<=52:=aL (ww _ _)<|FG ⟨most,oZ Z⟩;generalize (pats most).filter (ku s (root s.par x)<|root s.par y)=L at f0 c9 d0 I;have j7:∀t∈L,fc t/\t.rows.length<=4:=λt ht=>by have:=(rB Z ((c9 t).mp ht).1).2;exact⟨this.1,aL this.2 Z⟩
   have b4:∀t∈L,cN t:=λt ht=>(j7 t ht).1.1;calc ES (x:=ak "both") r3 I (.inl ⟨L.map Tm.dt,by rw[bg];rfl,rfl⟩) ?_;have f1:bN CH CB CU a (del ah bl) s:=C.same λb hb=>by unfold del;rw[if_neg λe:b=bl=>m4 (e▸hb)]
   generalize del ah bl=f2 at f1|-;generalize P:aZ a0 (ak "both") (.d<|.lst<|L.map Tm.dt)=b5;have v1:b5 (ak "heap")=some (.ref a.h):=by rw[<-P];exact r1
   have v3:b5 (ak "both")=some (.d<|.lst<|L.map Tm.dt):=by rw[<-P];rfl
   have v4:b5 (ak "one")=some (aY x):=by rw[<-P];exact r4
   have v5:b5 (ak "other")=some (aY y):=by rw[<-P];exact r5
   have v6:b5 (ak "most")=some (aY most):=by rw[<-P];exact r6
   clear P r1 r3 r4 r5 r6;calc aU<|cz<|iV ?_;lk;calc⟨lb rfl,λdl n4=>?_⟩;have j8:dl∉a.own s:=f1.fresh n4;have j9:bN CH CB CU a (upd f2 dl<|.lst []) s:=f1.same λb hb=>aC λe:b=dl=>j8<|e▸hb;have k0:=bo (O:=f2) (a:=dl) (m:= .lst []);generalize upd f2 dl (.lst [])=p7 at j9 k0|-;tm_at"1";refine aU<|gD (λ_=>rfl)<|eJ ?_
   (first|calc bJ v3 ?_|calc cf v3 ?_)
   refine⟨_,rfl,forL (g:=λt:Tm=>PV.d t.dt) [ak "wide"] (λdone ah=>bN CH CB CU a ah s/\ah dl=some (.lst<|(done.filter<|iQ L).map λt=>PV.d t.dt)) (bg ..) ⟨j9,k0⟩ ?_ ?_⟩
   .intro done w i8 ah a0 Q5 hd p J k1;have C:=p.1;have a6:=p.2;have n5:w∈L:=mid hd
    ·
     have k2:=(j7 w n5);have k3:=k2.1;have k4:=k2.2;have n6:=Tm.tc w;have k5:done.length<=L.length:=ja<|nS hd;have e7:=ww (iQ L) done;tm_at"1";refine aU<|pU<|lP (by rfl)<|gN (by rw[a3];rfl) (λ_=>rfl)<|eJ ?_
     (first|calc bJ (J.tr rfl v3) ?_|calc cf (J.tr rfl v3) ?_)
     refine⟨_,rfl,Fv (g:=λt:Tm=>PV.d t.dt) (by rfl) (nK w) Tm.dt (Kp ah) (bg ..) (aL d0<|by decide) Kp.refl ?_ ?_⟩
     .intro cenv p8 o c2 p9 TT n7 b6
      ·
       have d9:=b4 o n7;calc jL ⟨TT.aZ (by rfl) _,xP<|rF<|rP<|lP (by rfl)<|bJ (by rfl)<|cf (by unfold aZ;rw[if_neg (by decide),TT _ (by rfl)];rfl)<|kU d9.jM k3.1.jM ⟨_,rfl,?_⟩⟩;by_cases d1:o=w
       .exact cy (by rw[d1,decide_eq_true rfl];rfl)<|.no rfl (qr.mpr λhb=>(qO.mp hb).1 d1) b6
       .refine cB (by rw[decide_eq_false λh=>d1 (Tm.pE _ _ h)];rfl)<|rP<|uT<|eh W.ins λ_ _=>ba<|bJ (by rfl)<|ba<|cf (by unfold aZ;rw[if_neg (by decide),TT _ (by rfl)];rfl)<|ba<|lG λta k6=>?_
        lk;calc aW.up (k:=6) (Vd (k:=0) (tab:=[]) W.ins N W.w.zip 5 w o ‹_› ((aq 576080208409137) k4 n6) k3 d9 bo hX (λ_ h=>by calc cX h) (by simp;calc(aB 147892339441) k4) λg0 b o7 g1 g2 g3 g4 g5 g6 g7 g8=>⟨_,rfl,?_⟩)<|gY (by decide);have k7:Kp ah g0:=b6.trans λb hb=>(g2 b λe=>hb<|e▸k6).trans (aC λe:b=ta=>hb<|e▸k6);cases b with
        |false=>
         calc cy rfl<|.no rfl (qr.mpr λhb=>?_) k7;obtain⟨_,σ,f3⟩:=qO.mp hb;calc absurd (g8 σ YI f3).1<|rK
        |true=>
         exact cB rfl<|rH<|ai (KX g3) λσ f3=> .yes rfl (qO.mpr ⟨d1,σ,g7 rfl σ f3⟩)<|bJ (by rfl) ⟨rfl,k7⟩
     .intro c2 b6
      have k8:bN CH CB CU a c2 s:=C.same λb hb=>b6 b (by calc ai (C.some hb) λm e=>?_;rw[e];simp);have b7:c2 dl=some (.lst<|(done.filter<|iQ L).map λt=>PV.d t.dt):=(b6 dl<|by rw[a6];simp).trans a6;calc iG ?_;lk;calc⟨lb rfl,[],rfl,fe (wj λt ht=>b4 t (gK.mp ht).1) vq ⟨_,rfl,?_⟩⟩;have k9:∀b,iQ L w=b->(done++[w]).filter (iQ L)=done.filter (iQ L)++(if b=true then[w] else[]):=λb hb=>by rw[OB,wC,hb];rfl
      by_cases hm:L.filter (nK w)=[]
      .have hb:iQ L w=true:=by unfold iQ;rw[hm];rfl
       calc cB (decide_eq_true<|by rw[hm];rfl)<|aU<|eG ?_;tm_at"m"
       (first|calc bJ (J.tr rfl rfl) ?_|calc cf (J.tr rfl rfl) ?_)
       calc ij b7 lR mY ?_;lk;calc lF b7 (by unfold small;rw[au];calc(ax 0x205f1230f3235251) d0 k5 e7)<|cE<|cE<|k1 _ _ ⟨k8.same λb hb=>aC λe:b=dl=>j8<|e▸hb,?_⟩<|J.set rfl;rw[bo,k9 true hb];simp
      .have hb:iQ L w=false:=by
        unfold iQ;cases h:L.filter (nK w) with
        |nil=>calc absurd h hm
        |cons _ _=>rfl
       calc cy (decide_eq_false λh=>hm<|by have:=Dt.lst.inj h;simpa using this)<|cE<|cE<|k1 _ _ ⟨k8,?_⟩<|J.set rfl;rw[k9 false hb];simpa using b7
   .intro ah a0 p J;have C:=p.1;have a6:=p.2
    have r1:=J.tr (x:=ak "heap") rfl v1;have r4:=J.tr (x:=ak "one") rfl v4;have r5:=J.tr (x:=ak "other") rfl v5;have r6:=J.tr (x:=ak "most") rfl v6;have r7:=J.tr (x:=ak "due") rfl rfl;have n8:(oA L).length<=52:=aL (ww _ _) d0;have b8:∀t∈oA L,cN t:=λt ht=>b4 t (gK.mp ht).1;have f4:ah dl=some (.lst<|((oA L).map Tm.dt).map PV.d):=by rw[a6,bg];rfl
    obtain⟨fr,n9,l0,f5⟩:=W.rank;refine aU<|yz (names:=[ak "due",ak "before"]) (by rfl) ((wY a3).trans rfl) (by rw[a3];rfl)<|cT<|ba<|Mc (by rfl) (by rfl)<|gO (by tm_at"k") (by decide) W.w.w.mE.1 W.w.w.mE.2 ⟨rfl,?_⟩
    (first|calc bJ r7 ?_|calc cf r7 ?_)
    refine zI (by tm_at"k") (by decide) n9 ⟨fr,rfl,WC (key:=λd=>nD<|zw d) f4 (by rw[au];calc(aB 490147557617) n8) (λd hd=>?_) (λd hd=>?_) λds b9 c0=>?_⟩
    .refine ai (bb.mp hd) λt p=>?_;have ht:=p.1;have a5:=p.2;clear p;clear hd;subst a5
     have o0:=Tm.tc t;have h5:=(b8 t ht).1;calc aW.up (k:=7) (UB (k:=0) W.rows N f6 f5 (n:=5) ((aq 576080256830451) o0 h5) ((aB 139302407153) h5) (λr hr=>?_) ⟨by rw[qQ];rfl,rfl⟩)<|gY (by decide);have l0:r.kids.length<=r.rows.length:=by rw[yf,bP];have:=Tm.sZ r.kids;exact yB this
     have f5:=Nh t r hr;exact(ax 0x206f120bf3251235) h5 l0 f5
    .refine ai (bb.mp hd) λt p=>aw p λht a5=>?_;clear p;clear hd;subst a5;rw[qQ];exact YJ<|b8 t ht
    calc ai (rQ b9) λD p=>?_;have hD:=p.1;have a5:=p.2;clear p;clear b9;subst a5;have l3:D.Pairwise (λt u=>cV (nD u) (nD t)=false):=by rw[OI] at c0;exact c0.imp λh=>by rw[qQ,qQ] at h;exact h
    have a7:∀t∈D,cN t:=λt ht=>b8 t<|hD.mem_iff.mp ht;calc ba ?_;tm_at"m"
    (first|calc bJ r1 ?_|calc cf r1 ?_)
    calc eF C.at_ W.w.w.H.cls W.w.w.zC (by decide+kernel) λg hg=>?_;lk;refine aW.up (k:=2) (Eo (k:=0) W.w.w.H W.w.w.B N W.w.w.bsize hg C.at_ C.bk.at_ (qd h7)<|iT ⟨lb rfl,.inl ⟨[.lst (D.map Tm.dt),.int (s.nodes.length:Nat)],rfl,_,As,rfl,aU<|cz<|Aa W.gC W.w.cls (by tm_at"k") (by decide) (by rfl) (by rfl)<|ba ?_⟩⟩)<|gY<|by decide
    (first|calc bJ r1 ?_|calc cf r1 ?_)
    lk;calc aW.up (k:=2) (Yv (k:=0) W.w iC FC C λo dx o8 C1 o9 q0=>?_)<|gY (by decide);tm_at"1";calc aU<|eX<|VA<|sD (by rfl) ?_;tm_at"m";lk;refine KY C1 W.w.cls W.w.common (by decide+kernel) λg hg=>ba ?_
    (first|calc bJ r4 ?_|calc cf r4 ?_)
    refine ba ?_
    (first|calc bJ r5 ?_|calc cf r5 ?_)
    refine ba ?_
    (first|calc bJ r6 ?_|calc cf r6 ?_)
    lk;calc aW.up (k:=30) (Ny (k:=0) W.w G T hg C1 ((dL 37285967)) hx hy Z λp0 F1 S1 o1 o2 e4 C2 p1=>?_)<|gY (by decide);have a2:∀z,z<s.nodes.length->root s.par z<s.nodes.length:=λz hz=>by rw[<-G.pl];exact lN G.cH<|by rw[G.pl];exact hz
    have E1:=Jb G (a2 x hx) (a2 y hy) Z o1 o2 e4 c9 f0 hD l3;rw[E1];lk;calc fe (wj a7) (wj a7) ⟨_,rfl,cB (decide_eq_true rfl)<|sD (by rfl) ?_⟩;tm_at"m";lk;refine KY C2 W.w.cls W.w.common (by decide+kernel) λg hg=>ba ?_
    (first|calc bJ r5 ?_|calc cf r5 ?_)
    refine ba ?_
    (first|calc bJ r4 ?_|calc cf r4 ?_)
    refine ba ?_
    (first|calc bJ r6 ?_|calc cf r6 ?_)
    lk;calc aW.up (k:=30) (Ny (k:=0) W.w G T hg C2 ((dL 9545482319)) hy hx Z λl4 F2 S2 o3 o4 h9 C3 p2=>?_)<|gY (by decide);have E2:=Jb G (a2 y hy) (a2 x hx) Z o3 o4 h9 (λt=>(c9 t).trans TB) f0 hD l3;rw[E2];lk;calc fe (wj a7) (wj a7) ⟨_,rfl,cB (decide_eq_true rfl)<|sD (by rfl) ?_⟩;tm_at"m"
    (first|calc bJ r1 ?_|calc cf r1 ?_)
    calc eF C3.hp.at_ W.w.w.H.cls W.w.w.zC (by decide+kernel) λg hg=>?_;lk;calc aW.up (k:=2) (Eo (k:=0) W.w.w.H W.w.w.B N W.w.w.bsize hg C3.hp.at_ C3.hp.bk.at_ (qd h7) ?_)<|gY (by decide);lk;calc fe et et ?_;rw[decide_eq_true rfl];calc q l4
end
section
theorem XZ{c:Cx}{f:Addr}{st:Stmt}(h:fnAt c.K f=xu st q)(ok:DI st=true)(C:Binds st):Fn c f st:=by unfold DI at ok;simp only[tX,O6,decide_eq_true_eq] at ok;calc aw ok λj D=>?_;calc aw j λl H=>?_;calc aw l λm J=>?_;calc aw m λp L=>?_;calc aw p λN P=>?_;calc rC h λo e h=>rC h λg e2 h=>?_;have h:=gn h;have h1:g.params=ya st:=congrArg mD.params h;have S:g.defaults= .none:=congrArg mD.defaults h;have T:g.qualname=ak q:=congrArg mD.qual h;calc{is:=bv o g<|Ao e (IV e2) (congrArg mD.body h) (congrArg mD.scope h) (congrArg mD.globals h) (congrArg mD.closure h) (congrArg mD.builtins h) (λhp I=>T▸Vg (congrArg mD.code h) I) λvs U=>jV (Xl U C.1) λx y z w r=>by have:=C.2 g x y z w;rw[<-h1,<-S] at this;rw[r];calc this,kind:=eq_of_beq N,plain:=⟨P,L⟩,names:=J,cells:=H,Vl:=D}
theorem C7(h:Bw c.K C=(some<|some<|qx "object.__getattribute__",some (none:Option Value),some<|some<|qx "object.__setattr__",true,true,true,true)):jp c C:=by simp only[Bw,Ho] at h;calc qY h λh1 g j l m p q=>⟨h1,g,j,l,m,p,q⟩
theorem jr{K:Frag}(F:kh K=kf):kS.map (λx=>fnAt K x.1)=kS.map (λx=>xu x.2.1 x.2.2)/\uV.map (λx=>og K (.ref x.1)<|ak x.2.1)=uV.map (λx=>some<|some<|lY x.2.2)/\yq.map (λx=>og K (.ref x.1)<|ak x.2)=yq.map (λZ=>some (none:Option Value))/\yl.map (Bw K)=yl.map (λZ=>(some<|some<|qx "object.__getattribute__",some (none:Option Value),some<|some<|qx "object.__setattr__",true,true,true,true))/\vm.map (λx=>gj K 3<|ak x.1)=vm.map (λx=>some<|lY x.2)/\xd.map (λx=>(gj K 3<|ak x,gj K 0<|ak x))=xd.map (λx=>((none:Option Value),some<|qx x))/\xb.map (λx=>(gj K 3<|ak x,gj K 0<|ak x))=xb.map (λx=>((none:Option Value),some<|kJ x))/\FT (gj K 3<|ak "MOST_PATTERNS")=some 2000/\qG K 3=true/\qG K 0=true/\qG K 2=true/\gj K 2 "sys.recursionlimit"=none/\(K.lookup si).isSome=true:=by simpa only[kh,kf,Ho] using F
noncomputable def kr(w:bR)(os:pu)(K:Frag)(F:kh K=kf):Cx where
 prog:=Gm
 w:=w
 K:=K
 os:=os
 mg:=gj K 3
 mb:=gj K 0
 lim:=λh I=>⟨gj K 2,At (jr F).2.2.2.2.2.2.2.2.2.2.1 I,(jr F).2.2.2.2.2.2.2.2.2.2.2.1⟩
 sm:=BK.mp (jr F).2.2.2.2.2.2.2.2.2.2.2.2
 hg:=λh I=>At (jr F).2.2.2.2.2.2.2.2.1 I
 hb:=λh I=>At (jr F).2.2.2.2.2.2.2.2.2.1 I
section
variable{w:bR}{os:pu}{K:Frag}{F:kh K=kf}
theorem DG(F:kh K=kf)(i:Nat){a:Addr}{st:Stmt}{q:String}(e:kS[i]? =some (a,st,q)):Fn (kr w os K F) a st/\typeIn K (.ref a)=some (.type "function")/\pA K (.ref a)=true:=by have h:fnAt K a=xu st q:=oI (jr F).1 i e;calc⟨XZ (c:=kr w os K F) h (jb.mp XX _<|fZ e)<|Va i e,XA h⟩
theorem eQ(F:kh K=kf)(j i:Nat){C a:Addr}{x:String}{st:Stmt}{q:String}(h:uV[j]? =some (C,x,a))(e:kS[i]? =some (a,st,q)):∃f,iY (kr w os K F) C (ak x) f/\pA (kr w os K F).K (.ref f)=true/\Fn (kr w os K F) f st:=by calc aN (DG (w:=w) (os:=os) F i e) λh1 l g=>⟨a,aR ⟨oI (jr F).2.1 j h,l,g⟩ g h1⟩
theorem kE(F:kh K=kf)(j i:Nat){a:Addr}{x:String}{st:Stmt}{q:String}(g:vm[j]? =some (x,a))(e:kS[i]? =some (a,st,q)):Glob (kr w os K F) (ak x) st:=by calc aN (DG (w:=w) (os:=os) F i e) λh1 l h=>⟨a,oI (jr F).2.2.2.2.1 j g,h,h1⟩
theorem jT(F:kh K=kf)(j:Nat){C:Addr}{x:String}(e:yq[j]? =some (C,x)):ic (kr w os K F) C (ak x):=oI (jr F).2.2.1 j e
theorem Aq(F:kh K=kf)(j:Nat){C:Addr}(e:yl[j]? =some C):jp (kr w os K F) C:=C7<|oI (jr F).2.2.2.1 j e
theorem AR(F:kh K=kf)(j:Nat){x:String}(e:xd[j]? =some x):eO (kr w os K F) x:=wP<|oI (jr F).2.2.2.2.2.1 j e
theorem tt(F:kh K=kf)(j:Nat){x:String}(e:xb[j]? =some x):fJ (kr w os K F) x:=wP<|oI (jr F).2.2.2.2.2.2.1 j e
theorem Za(F:kh K=kf):Wl (kr w os K F) 474 205 344 262:=by
 have g:=λ(j:Nat) {x:String} {a:Addr} (e:vm[j]? =some (x,a))=>(oI (jr F).2.2.2.2.1 j e:gj K 3 (ak x)=some (lY a));have h:=λ(j i:Nat) {C a:Addr} {x:String} {st:Stmt} {q:String} (l:uV[j]? =some (C,x,a)) (e:kS[i]? =some (a,st,q))=>((eQ (w:=w) (os:=os) F j i l e).imp λf p=>⟨p.1,p.2.2⟩:∃f,iY (kr w os K F) C (ak x) f/\Fn (kr w os K F) f st);have hm:∃t,(kr w os K F).mg (ak "MOST_PATTERNS")=some (.int 2000 t):=by exact WA (v:=gj K 3<|ak "MOST_PATTERNS") (jr F).2.2.2.2.2.2.2.1
 calc{w:=({w:=({H:=⟨Aq F 3 rfl,jT F 7 rfl,jT F 8 rfl,jT F 9 rfl,jT F 10 rfl,jT F 11 rfl,jT F 12 rfl,jT F 13 rfl⟩,B:=⟨Aq F 0 rfl,jT F 0 rfl,jT F 1 rfl,jT F 2 rfl,jT F 3 rfl⟩,U:=⟨Aq F 2 rfl,jT F 4 rfl,jT F 5 rfl,jT F 6 rfl⟩,len:=AR F 0 rfl,mE:=AR F 1 rfl,sum:=AR F 2 rfl,max:=AR F 3 rfl,tup:=tt F 0 rfl,set:=tt F 1 rfl,Lr:=kE F 0 0 rfl rfl,bsize:=eQ F 1 6 rfl rfl,Jl:=eQ F 2 7 rfl rfl,KA:=eQ F 3 8 rfl rfl,Fw:=eQ F 4 9 rfl rfl,EW:=eQ F 5 10 rfl rfl,JD:=eQ F 6 11 rfl rfl,Mj:=eQ F 13 20 rfl rfl,usize:=eQ F 14 21 rfl rfl,kX:=eQ F 15 22 rfl rfl,Nc:=eQ F 16 23 rfl rfl,Ki:=eQ F 17 24 rfl rfl,zC:=eQ F 19 26 rfl rfl,zq:=eQ F 20 27 rfl rfl,tz:=eQ F 21 28 rfl rfl,yr:=eQ F 22 29 rfl rfl,FD:=eQ F 23 30 rfl rfl,kQ:=eQ F 24 31 rfl rfl,LS:=eQ F 25 32 rfl rfl,Dd:=eQ F 26 33 rfl rfl,MQ:=eQ F 27 34 rfl rfl,kN:=eQ F 28 35 rfl rfl,kY:=eQ F 29 36 rfl rfl}),cls:=Aq F 1 rfl,heap:=jT F 14 rfl,known:=jT F 15 rfl,common:=eQ F 8 15 rfl rfl,limited:=eQ F 9 16 rfl rfl,shared:=eQ F 10 17 rfl rfl,spread:=eQ F 11 18 rfl rfl,most:=hm,LH:=kE F 1 1 rfl rfl,parts:=kE F 2 2 rfl rfl,matched:=kE F 3 3 rfl rfl,JM:=kE F 4 4 rfl rfl,covered:=kE F 6 12 rfl rfl,named:=kE F 7 13 rfl rfl,mA:=tt F 2 rfl,zip:=tt F 3 rfl,LD:=tt F 4 rfl}),gH:=g 10 rfl,gB:=g 5 rfl,gU:=g 9 rfl,gC:=g 8 rfl,iH:=h 18 25 rfl rfl,iB:=h 0 5 rfl rfl,iU:=h 12 19 rfl rfl,iC:=h 7 14 rfl rfl,qL:=kE F 11 37 rfl rfl,hp:=kE F 12 38 rfl rfl,tr:=kE F 13 39 rfl rfl,tJ:=kE F 14 40 rfl rfl,pl:=kE F 15 41 rfl rfl,ins:=kE F 16 42 rfl rfl,rows:=kE F 17 43 rfl rfl,rank:=kE F 18 44 rfl rfl,lst:=tt F 5 rfl,dict:=tt F 6 rfl}
end
end
section
noncomputable def uJ(w:bR)(h:Heap):Prop:=∃K:Frag,K.In h/\kh K=kf
theorem uJ.keeps(w:bR)(h h':Heap)(Y:uJ w h)(k:∀b o,h.get? b=some o->h'.get? b=some o):uJ w h':=ai Y λK q=>⟨K,q.1.keeps k,q.2⟩
theorem SN{ds:List WData}(h:OL [] ds .int=true):∃is:List Int,ds=is.map ze:=by
 induction ds with
 |nil=>calc⟨[],rfl⟩
 |cons d ds g=>
  have h:=iu.mp<|show(WShape.has [] d .int&&OL [] ds .int)=true from h;calc ai (g h.2) λis e=>?_;cases d with
  |int i=>calc⟨i::is,e▸rfl⟩
  |_=>calc ek h.1
theorem XD(h:(Gl.row).toRowW.claim.pre args=true):∃is:List Int,args=[.list (is.map ze)]/\is.length<=63:=by
 have hs:=(pre_splitW h).1;have hc:=(pre_splitW h).2;calc aE (hasAllW_cons hs) λd r q=>aN q λe h1 g=>?_;clear hs h q;subst e
 have e:r=[]:=by
  cases r with
  |nil=>rfl
  |cons=>exact ek g
 clear g;subst e;cases d with
 |list xs=>
  calc ai (SN<|wT (M5.mp<|show(OL [] xs .int||false)=true from h1) id ek) λis e=>?_;clear h1;subst e;have j:PW [] (.not<|.lit<|.bool<|decide<|(63:Int)<((is.map ze).length:Int)) {args:=[.list (is.map ze)]}=true:=(holds_andW (a:= .not<|.lt (.lit<|.int 63)<|.len<|.arg 0) (b:= .lit<|.bool true) hc).1;calc⟨is,rfl,lX.mp λl=>?_⟩;rw[decide_eq_true (show(63:Int)<((is.map ze).length:Int) from by rw[au];calc wN.mpr l)] at j;calc ek j
 |_=>calc ek h1
theorem ZG{w j:bR}{is:List Int}(W:WellAll w.params h vs<|is.map ze):aT j B (is.map Dt.int) vs:=by
 induction is generalizing vs with
 |nil=>cases W;calc rfl
 |cons i is l=>calc aE (wellAll_cons_inv W) λv g p=>ai (M6 ((encInt Gm w).is p.2.1).1) λt e=>⟨v,g,p.1,⟨t,e⟩,l p.2.2⟩
theorem XN(hd:d.name=ak "law"):WalkO q loose XP uJ (Gl.row).toRowW d a0 λf vs=>PySem.call f vs:=by
 intro w s₀ s₁ mg mb G Y fa o pm cd a1 dV kV ho X a2 hD l hg args Z as j C a3 J a5;obtain⟨K,I,F⟩:=Y;calc ai (XD j) λis r=>?_;have L:=r.1;have N:=r.2;clear r;clear j C;subst L;have P:fa=527:=by have e1:=oI (jr F).2.2.2.2.1 19 (x:=("law",527)) rfl;have e1:gj K 3 (ak "law")=some (lY 527):=e1;have z:=At (jr F).2.2.2.2.2.2.2.2.1 I;rw[show(3:Addr)=uh from rfl] at z e1;rw[G.T.g.eq_nsMap.trans z.eq_nsMap.symm,hd] at l;exact Value.ref.inj<|gn<|l.symm.trans e1
 clear ho l;subst P;generalize hc:kr w s₁.os K F=c;have W:Wl c 474 205 344 262:=hc▸Za F;have Fl:Fn c 527 (aK 30):=hc▸(DG F 45 rfl).1;cases J with
 |cons wv wr=>
  cases wr;cases wv with
  | @list a vs _ D H=>
   have S:Sat c s₁.heap.get? (λ_=>none) (λ_=>none) s₁:=by clear Fl W;subst hc;exact{kb:=λa o e=>I _ _ e,fb:=λa o e=>e,fr:=λa o e=>(nomatch e),fm:=λa m e=>(nomatch e),br:=λ_ _ _=>rfl,bm:=λ_ _ _=>rfl,rm:=λ_ _ e=>(nomatch e),gens:=hg,os:=rfl}
   have R:bC c.w s₁.heap.get? [.d (.lst<|is.map .int)] [.ref a]:=⟨_,_,rfl,⟨a,_,vs.toArray,_,rfl,D,rfl,rfl,ZG H⟩,rfl⟩;have key:=(Yi (k:=0) (O:=λ_=>none) (Q:=λp _=>p= .d (.bool true)) W Fl (is:=is) ((aB 139302425841) N) λ_=>rfl).1 callerA _ _ s₁ [.ref a] ⟨rfl,by decide+kernel,by decide+kernel⟩ S R;clear S R Fl W;subst hc;calc aS key ?_ λ_ _ h=>h.elim;rintro v s' ⟨B',ah,pv,hB,U,hv,rfl⟩;rw[show v= .bool true from hv];refine GoodW.toG ⟨.inl<|jQ _ _ ([])<|km rfl ?_ (ReadsW.bool true) ?_ λ_=>⟨hX,λ_ hm=>(nomatch hm)⟩,λb o e=>U.fb _ _<|hB _ _ e,U.os,U.gens⟩
   .intro cls;rfl
   .refine iu.mpr ⟨(show WShape.has [] (.bool true) .bool=true from rfl),?_⟩;show PW [] (.eq .res<|.lit<|.bool true) _=true;calc congrArg (λb=>PW [] (.lit<|.bool b) {args:=[]})<|PySem.W.same_self<|.bool true
end
end Internal
set_option maxHeartbeats 0
set_option maxRecDepth 100000 in
theorem PySem.Challenge.cw_pq0068_01_holds : PySem.Challenge.rw_pq0068_01.Holds := by
 refine holds_law Internal.ZZ λg=>?_;refine holds_open (q:=Internal.vw) (loose:=Internal.lsN) (Xt:=λZ=>true) (XP:=λZ Z=>True) (Yf:=Internal.Yh) (Ya:=λZ=>True) (YP:=Internal.uJ) (N:=8000) Internal.WD (λw s e=>of_eq_true e) Internal.uJ.keeps (λZ Z=>trivial) (λZ Z Z x Z=>x) (by rfl) (by rfl) (by rfl) (λs e=>recFacts_of rfl) (by rfl) (by assumption) (by decide+kernel) ⟨rfl,rfl,rfl,rfl,rfl,by decide+kernel⟩ ⟨[.list []],by decide+kernel,by decide+kernel⟩ ?_;refine Internal.XN rfl
